import PyProof.Rows.All
import Wide.All
import OpenK.AllK
import Wide.FinOn
import HandS.WordsList
import HandS.Iter
import HandS.Text
import HandS.Comp
import HandS.Dict
import HandS.Exc
import HandS.ExcOwn
import KE.KeyNested
import HandS.IsInst
import HandS.TupAny
import HandS.Deep
import HandS.Wide
import HandS.Zip
import HandS.Words
import HandS.WordsExc
import HandS.WordsDict
import HandS.StrMore
import HandS.Style
import HandS.TupMul
import PyProof.ReprRoads
import PyProof.CallFns
import KE.GoesMore
import KE.KDictZip
import PyProof.TupleOfGen
import KE.KRevSl
import HandS.Ends
import PyProof.NeKinds
import OpenK.KMeth
import HandS.DictComp
import KE.KDictKeyed
import HandS.SortInts
import HandS.Strs
import PyProof.Rows.SetFrom
import PyProof.SumWalkG
import HandS.ExcValue
import HandS.TupLe
import PyProof.FitsInt
import KE.SortData
import HandS.ListItems
import HandS.SetFor
import HandS.Conv
import PySem.Challenge.RW_evenlead_k10_pacers_beside_all_short_way
set_option Elab.async false
set_option linter.all false
set_option maxRecDepth 100000
set_option maxHeartbeats 4000000
namespace VL
open PySem PySem.Spec L2
open PyProof.Rows hiding St

abbrev Dt := PyData
/-- the world, and where each class stands -/
class WW where
  w : World
  cl : Str → Addr
  /-- the deck's own object -/
  dk : Addr → Int → Int → HO
  dkn : ∀ (a : Addr) (b c : Int) (q : List Int), dk a b c ≠ .lst (q.map V.int)
variable [WW]
/-- what a name holds: data that nobody changes; a list or dict of its own; the deck of a law -/
inductive SV where
  | v (d : Dt)
  | o (d : Dt)
  | dk (a : Addr) (q : List Int) (b c : Int)
  | se (a : Addr) (d : Dt)
abbrev SS := List (Option SV)
inductive Res (α : Type) where
  | ok (a : α)
  | exc (c : Str) (fs : List (Str × Dt))
  | no
inductive EO (α : Type) where
  | ok (a : α) (ss : SS)
  | exc (c : Str) (fs : List (Str × Dt)) (ss : SS)
  | no
inductive RV where
  | v (d : Dt)
inductive SO where
  | nx (ss : SS) | rt (d : Dt) (ss : SS) | bk (ss : SS) | ct (ss : SS)
  | exc (c : Str) (fs : List (Str × Dt)) (ss : SS) | no
def EO.bind {α β : Type} (x : EO α) (f : α → SS → EO β) : EO β := match x with
  | .ok a ss => f a ss
  | .exc c fs ss => .exc c fs ss
  | .no => .no
def EO.lift {α : Type} (x : Option α) (ss : SS) : EO α := match x with
  | some a => .ok a ss
  | none => .no

def keyD : Key → Dt
  | .inl i => .int i
  | .inr x => .str x
/-- a dict whose keys are tuples of data, not empty -/
def dNo (a : Addr) (xs : List (NestedKey × Addr × V)) : HO := .ext fun h => xs.length ≤ sizeLine ∧ (a == sysModules) = false ∧ ∃ ys : List (NestedKey × Addr × Value),
  Paired (fun (p : NestedKey × Addr × V) (q : NestedKey × Addr × Value) => p.1 = q.1 ∧ p.2.1 = q.2.1 ∧ RelV p.2.2 q.2.2) xs ys ∧
  ∃ o es ep, h.get? a = some o ∧ o.ExactDict ∧ o.data = .dict es ep ∧ es.toList = ys.map (fun x => ⟨x.1.hash WW.w, .ref x.2.1, x.2.2⟩) ∧ (ys.map (·.1)).Nodup
mutual
inductive Rp (K : PySem.W.Frag) (H : Hp) : V → Dt → Prop
  | non : Rp K H .non .none
  | bl (b : Bool) : Rp K H (.bl b) (.bool b)
  | int (i : Int) : Rp K H (.int i) (.int i)
  | str (x : Str) : Rp K H (.str x) (.str x)
  | lst {a : Addr} {xs : List V} {ds : List Dt} : H a = some (.lst xs) → RpA K H xs ds → Rp K H (.ref a) (.list ds)
  | tup {a : Addr} {xs : List V} {ds : List Dt} : SqT K H a xs → RpA K H xs ds → Rp K H (.ref a) (.tuple ds)
  | dK {a : Addr} {kvs : List (Key × V)} {ds : List (Dt × Dt)} : H a = some (.dK kvs) → RpK K H kvs ds → Rp K H (.ref a) (.dict ds)
  | dN {a : Addr} {xs : List (NestedKey × Addr × V)} {ds : List (Dt × Dt)} : H a = some (dNo a xs) → xs ≠ [] → RpN K H xs ds → Rp K H (.ref a) (.dict ds)
  | ob {a dx : Addr} {c : Str} {fs : List (Str × V)} {ds : List Dt} : H a = some (.ins (WW.cl c) dx fs) → RpA K H (fs.map (·.2)) ds → Rp K H (.ref a) (.dict [(.none, .str c), (.tuple (fs.map fun p => .str p.1), .tuple ds)])
inductive RpA (K : PySem.W.Frag) (H : Hp) : List V → List Dt → Prop
  | nil : RpA K H [] []
  | cons {x : V} {xs : List V} {d : Dt} {ds : List Dt} : Rp K H x d → RpA K H xs ds → RpA K H (x :: xs) (d :: ds)
inductive RpK (K : PySem.W.Frag) (H : Hp) : List (Key × V) → List (Dt × Dt) → Prop
  | nil : RpK K H [] []
  | cons {k : Key} {x : V} {xs : List (Key × V)} {d : Dt} {ds : List (Dt × Dt)} : Rp K H x d → RpK K H xs ds → RpK K H ((k, x) :: xs) ((keyD k, d) :: ds)
inductive RpN (K : PySem.W.Frag) (H : Hp) : List (NestedKey × Addr × V) → List (Dt × Dt) → Prop
  | nil : RpN K H [] []
  | cons {ks : List NestedKey} {b : Addr} {x : V} {xs : List (NestedKey × Addr × V)} {d : Dt} {ds : List (Dt × Dt)} : (NestedKey.tup ks).depth ≤ 8 → Rp K H (.ref b) (.tuple (NestedKey.datas ks)) → Rp K H x d → RpN K H xs ds → RpN K H ((.tup ks, b, x) :: xs) ((.tuple (NestedKey.datas ks), d) :: ds)
end
section
variable {K : PySem.W.Frag} {H H' : Hp}
theorem sqT_mono {a : Addr} {xs : List V} (e : Same H H') (h : SqT K H a xs) : SqT K H' a xs := by
  rcases h with (h | ⟨o, h⟩) | h
  · exact .inl (.inl (e _ _ h))
  · exact .inl (.inr ⟨o, e _ _ h⟩)
  · exact .inr h
theorem Rp.mono (e : Same H H') (d : Dt) (x : V) (h : Rp K H x d) : Rp K H' x d := by
  refine Rp.rec (motive_1 := fun x d _ => Rp K H' x d) (motive_2 := fun xs ds _ => RpA K H' xs ds) (motive_3 := fun xs ds _ => RpK K H' xs ds) (motive_4 := fun xs ds _ => RpN K H' xs ds) ?_ ?_ ?_ ?_ ?_ ?_ ?_ ?_ ?_ ?_ ?_ ?_ ?_ ?_ ?_ h
  · exact .non
  · exact fun b => .bl b
  · exact fun i => .int i
  · exact fun x => .str x
  · exact fun hs _ ha => .lst (e _ _ hs) ha
  · exact fun hs _ ha => .tup (sqT_mono e hs) ha
  · exact fun hs _ ha => .dK (e _ _ hs) ha
  · exact fun hs hn _ ha => .dN (e _ _ hs) hn ha
  · exact fun hs _ ha => .ob (e _ _ hs) ha
  · exact .nil
  · exact fun _ _ h1 h2 => .cons h1 h2
  · exact .nil
  · exact fun _ _ h1 h2 => .cons h1 h2
  · exact .nil
  · exact fun hd _ _ _ h0 h1 h2 => .cons hd h0 h1 h2
theorem RpA.mono (e : Same H H') : ∀ (ds : List Dt) (xs : List V), RpA K H xs ds → RpA K H' xs ds
  | [], _, h => by cases h; exact .nil
  | d :: ds, _, h => by
    cases h with
    | cons h1 h2 => exact .cons (Rp.mono e d _ h1) (RpA.mono e ds _ h2)
theorem RpK.mono (e : Same H H') : ∀ (ds : List (Dt × Dt)) (xs : List (Key × V)), RpK K H xs ds → RpK K H' xs ds
  | [], _, h => by cases h; exact .nil
  | (_, d) :: ds, _, h => by
    cases h with
    | cons h1 h2 => exact .cons (Rp.mono e d _ h1) (RpK.mono e ds _ h2)
theorem RpN.mono (e : Same H H') : ∀ (ds : List (Dt × Dt)) (xs : List (NestedKey × Addr × V)), RpN K H xs ds → RpN K H' xs ds
  | [], _, h => by cases h; exact .nil
  | (_, d) :: ds, _, h => by
    cases h with
    | cons hd h0 h1 h2 => exact .cons hd (Rp.mono e _ _ h0) (Rp.mono e d _ h1) (RpN.mono e ds _ h2)
/-- keys that are ints and texts -/
def isK : List (Dt × Dt) → Bool
  | [] => true
  | (.int _, _) :: r => isK r
  | (.str _, _) :: r => isK r
  | _ => false
theorem RpK.isK : ∀ (ds : List (Dt × Dt)) (xs : List (Key × V)), RpK K H xs ds → isK ds = true
  | [], _, h => rfl
  | (_, d) :: ds, _, h => by
    cases h with
    | @cons k _ _ _ _ h1 h2 => cases k <;> exact RpK.isK ds _ h2
theorem RpN.isK {ds : List (Dt × Dt)} {xs : List (NestedKey × Addr × V)} (h : RpN K H xs ds) (hn : xs ≠ []) : VL.isK ds = false := by
  cases h with
  | nil => exact absurd rfl hn
  | cons => rfl
/-- keys that are tuples -/
def isNK : List (Dt × Dt) → Bool
  | (.tuple _, _) :: _ => true
  | _ => false
theorem RpA.length : ∀ {ds : List Dt} {xs : List V}, RpA K H xs ds → xs.length = ds.length
  | [], _, h => by cases h; rfl
  | d :: ds, _, h => by
    cases h with
    | cons h1 h2 => simp [RpA.length h2]
theorem RpA.get : ∀ {ds : List Dt} {xs : List V} {i : Nat} {d : Dt}, RpA K H xs ds → ds[i]? = some d → ∃ x, xs[i]? = some x ∧ Rp K H x d
  | [], _, i, d, h, e => by simp at e
  | d :: ds, _, 0, d', h, e => by
    cases h with
    | cons h1 h2 =>
      have e : d = d' := by simpa using e
      exact ⟨_, rfl, e ▸ h1⟩
  | d :: ds, _, i + 1, d', h, e => by
    cases h with
    | cons h1 h2 =>
      obtain ⟨x, q1, q2⟩ := RpA.get (i := i) (d := d') h2 (by simpa using e)
      exact ⟨x, by simpa using q1, q2⟩
theorem RpA.app : ∀ {ds es : List Dt} {xs ys : List V}, RpA K H xs ds → RpA K H ys es → RpA K H (xs ++ ys) (ds ++ es)
  | [], _, _, _, h, g => by cases h; exact g
  | d :: ds, _, _, _, h, g => by
    cases h with
    | cons h1 h2 => exact .cons h1 (RpA.app h2 g)
theorem RpA.take : ∀ {ds : List Dt} {xs : List V} (n : Nat), RpA K H xs ds → RpA K H (xs.take n) (ds.take n)
  | _, _, 0, _ => by simp; exact .nil
  | [], _, n + 1, h => by cases h; exact .nil
  | d :: ds, _, n + 1, h => by
    cases h with
    | cons h1 h2 => exact .cons h1 (RpA.take n h2)
theorem RpA.drop : ∀ {ds : List Dt} {xs : List V} (n : Nat), RpA K H xs ds → RpA K H (xs.drop n) (ds.drop n)
  | _, _, 0, h => h
  | [], _, n + 1, h => by cases h; exact .nil
  | d :: ds, _, n + 1, h => by
    cases h with
    | cons h1 h2 => exact RpA.drop n h2
theorem RpA.rev : ∀ {ds : List Dt} {xs : List V}, RpA K H xs ds → RpA K H xs.reverse ds.reverse
  | [], _, h => by cases h; exact .nil
  | d :: ds, _, h => by
    cases h with
    | cons h1 h2 =>
      rw [List.reverse_cons, List.reverse_cons]
      exact (RpA.rev h2).app (.cons h1 .nil)
theorem RpA.one {x : V} {d : Dt} (h : Rp K H x d) : RpA K H [x] [d] := .cons h .nil
end

abbrev Om := Addr → Option Nat
def hid (ω : Om) (H : Hp) : Hp := fun a => match ω a with
  | none => H a
  | some _ => none
theorem hid_of {ω : Om} {H : Hp} {a : Addr} (h : ω a = none) : hid ω H a = H a := by unfold hid; rw [h]
theorem hid_le {ω : Om} {H : Hp} : Same (hid ω H) H := fun a o h => by
  unfold hid at h
  split at h
  · exact h
  · cases h
theorem hid_some {ω : Om} {H : Hp} {a : Addr} {o : HO} (h : hid ω H a = some o) : ω a = none ∧ H a = some o := by
  unfold hid at h
  split at h
  · exact ⟨by assumption, h⟩
  · cases h

/-- a list or dict of a name's own -/
def OwC (K : PySem.W.Frag) (F : Hp) (a : Addr) (u : Option HO) (d : Dt) : Prop :=
  (∃ ds xs, d = .list ds ∧ u = some (.lst xs) ∧ RpA K F xs ds) ∨ (∃ ds kvs, d = .dict ds ∧ u = some (.dK kvs) ∧ RpK K F kvs ds) ∨
  (∃ ds xs, d = .dict ds ∧ u = some (dNo a xs) ∧ xs ≠ [] ∧ RpN K F xs ds) ∨ ∃ c dx fs ds, d = .dict [(.none, .str c), (.tuple (fs.map fun p => .str p.1), .tuple ds)] ∧ u = some (.ins (WW.cl c) dx fs) ∧ RpA K F (fs.map (·.2)) ds
def OwR (K : PySem.W.Frag) (ω : Om) (H : Hp) (k : Nat) (x : V) (d : Dt) : Prop := ∃ a, x = .ref a ∧ ω a = some k ∧ OwC K (hid ω H) a (H a) d
def DkR (ω : Om) (H : Hp) (k : Nat) (x : V) (a : Addr) (q : List Int) (b c : Int) : Prop :=
  x = .ref a ∧ ω a = some k ∧ ∃ a2, ω a2 = some k ∧ H a = some (WW.dk a2 b c) ∧ H a2 = some (.lst (q.map V.int))
def SlR (K : PySem.W.Frag) (ω : Om) (H : Hp) (i : Nat) (s : SV) (x : V) : Prop := match s with
  | .v d => Rp K (hid ω H) x d
  | .o d => OwR K ω H i x d
  | .dk a q b c => DkR ω H i x a q b c
  | .se a d => x = .ref a ∧ ω a = some i ∧ OwC K (hid ω H) a (H a) d
structure RS (K : PySem.W.Frag) (ω : Om) (ss : SS) (σ : St) (H : Hp) : Prop where
  len : ss.length = σ.length
  few : σ.length ≤ 1000
  own : ∀ a k, ω a = some k → (H a).isSome = true
  sl : ∀ i s, ss[i]? = some (some s) → ∃ x, σ[i]? = some (some x) ∧ SlR K ω H i s x
/-- from one state on to another one: what nobody owns stays, and what is owned from 1000 on -/
structure Frm (ω : Om) (H : Hp) (ω' : Om) (H' : Hp) : Prop where
  fz : Same (hid ω H) (hid ω' H')
  tp : ∀ a k, 1000 ≤ k → ω a = some k → ω' a = some k ∧ H' a = H a
  tr : ∀ a, H' a = none → H a = none
theorem Frm.refl (ω : Om) (H : Hp) : Frm ω H ω H := ⟨Same.refl _, fun _ _ _ h => ⟨h, rfl⟩, fun _ h => h⟩
theorem Frm.trans {ω ω1 ω2 : Om} {H H1 H2 : Hp} (a : Frm ω H ω1 H1) (b : Frm ω1 H1 ω2 H2) : Frm ω H ω2 H2 :=
  ⟨a.fz.trans b.fz, fun x k hk h => by
    obtain ⟨q1, q2⟩ := a.tp x k hk h
    obtain ⟨q3, q4⟩ := b.tp x k hk q1
    exact ⟨q3, q4.trans q2⟩, fun x h => a.tr x (b.tr x h)⟩
/-- the heap grows -/
theorem hid_same {ω : Om} {H H' : Hp} (e : Same H H') : Same (hid ω H) (hid ω H') := fun a o h => by
  obtain ⟨h1, h2⟩ := hid_some h
  rw [hid_of h1]
  exact e a o h2
section
variable {K : PySem.W.Frag} {ω ω' : Om} {ss : SS} {σ : St} {H H' : Hp}
theorem Frm.grow (e : Same H H') (own : ∀ a k, ω a = some k → (H a).isSome = true) : Frm ω H ω H' := ⟨hid_same e, fun a k _ h => ⟨h, by
  obtain ⟨o, q⟩ := Option.isSome_iff_exists.mp (own a k h)
  rw [q]
  exact e a o q⟩, fun a h => e.free h⟩
theorem OwC.rp {F F' : Hp} {a : Addr} {u : Option HO} {d : Dt} (h : OwC K F a u d) (e : Same F F') (ha : F' a = u) : Rp K F' (.ref a) d := by
  rcases h with ⟨ds, xs, rfl, h2, h3⟩ | ⟨ds, xs, rfl, h2, h3⟩ | ⟨ds, xs, rfl, h2, h3, h4⟩ | ⟨c, dx, fs, ds, rfl, h2, h3⟩
  · exact .lst (ha.trans h2) (RpA.mono e _ _ h3)
  · exact .dK (ha.trans h2) (RpK.mono e _ _ h3)
  · exact .dN (ha.trans h2) h3 (RpN.mono e _ _ h4)
  · exact .ob (ha.trans h2) (RpA.mono e _ _ h3)
theorem OwC.mono {F F' : Hp} {a : Addr} {u : Option HO} {d : Dt} (e : Same F F') (h : OwC K F a u d) : OwC K F' a u d := by
  rcases h with ⟨ds, xs, h1, h2, h3⟩ | ⟨ds, xs, h1, h2, h3⟩ | ⟨ds, xs, h1, h2, h3, h4⟩ | ⟨c, dx, fs, ds, h1, h2, h3⟩
  · exact .inl ⟨ds, xs, h1, h2, RpA.mono e _ _ h3⟩
  · exact .inr (.inl ⟨ds, xs, h1, h2, RpK.mono e _ _ h3⟩)
  · exact .inr (.inr (.inl ⟨ds, xs, h1, h2, h3, RpN.mono e _ _ h4⟩))
  · exact .inr (.inr (.inr ⟨c, dx, fs, ds, h1, h2, RpA.mono e _ _ h3⟩))
/-- a slot's content at a further state, where its own objects are as they were -/
theorem SlR.keep {i : Nat} {s : SV} {x : V} (e : Same (hid ω H) (hid ω' H')) (k : ∀ a, ω a = some i → ω' a = some i ∧ H' a = H a) (h : SlR K ω H i s x) : SlR K ω' H' i s x := by
  cases s with
  | v d => exact Rp.mono e _ _ h
  | o d =>
    obtain ⟨a, h1, h2, h3⟩ := h
    obtain ⟨k1, k2⟩ := k a h2
    exact ⟨a, h1, k1, by rw [k2]; exact h3.mono e⟩
  | dk a q b c =>
    obtain ⟨h1, h2, a2, h3, h4, h5⟩ := h
    obtain ⟨k1, k2⟩ := k a h2
    obtain ⟨k3, k4⟩ := k a2 h3
    exact ⟨h1, k1, a2, k3, by rw [k2]; exact h4, by rw [k4]; exact h5⟩
  | se a d =>
    obtain ⟨h1, h2, h3⟩ := h
    obtain ⟨k1, k2⟩ := k a h2
    exact ⟨h1, k1, by rw [k2]; exact h3.mono e⟩
theorem RS.grow (r : RS K ω ss σ H) (e : Same H H') : RS K ω ss σ H' := by
  refine ⟨r.len, r.few, fun a k h => ?_, fun i s h => ?_⟩
  · obtain ⟨o, q⟩ := Option.isSome_iff_exists.mp (r.own a k h)
    rw [e a o q]
    rfl
  · obtain ⟨x, q1, q2⟩ := r.sl i s h
    refine ⟨x, q1, q2.keep (hid_same e) fun a ha => ⟨ha, ?_⟩⟩
    obtain ⟨o, q⟩ := Option.isSome_iff_exists.mp (r.own a i ha)
    rw [q]
    exact e a o q
theorem RS.free (r : RS K ω ss σ H) {p : Addr} (h : H p = none) : ω p = none := by
  cases q : ω p with
  | none => rfl
  | some k =>
    have := r.own p k q
    rw [h] at this
    cases this
/-- slot i is given up: what it owned belongs to nobody -/
def drop (ω : Om) (i : Nat) : Om := fun a => if ω a = some i then none else ω a
theorem drop_ne {i j : Nat} {a : Addr} (h : ω a = some j) (n : j ≠ i) : drop ω i a = some j := by
  unfold drop
  rw [if_neg (by rw [h]; exact fun e => n (Option.some.inj e)), h]
theorem drop_none {i : Nat} {a : Addr} (h : ω a = none) : drop ω i a = none := by
  unfold drop
  rw [if_neg (by rw [h]; exact fun e => nomatch e), h]
theorem hid_drop {i : Nat} : Same (hid ω H) (hid (drop ω i) H) := fun a o h => by
  obtain ⟨h1, h2⟩ := hid_some h
  rw [hid_of (drop_none h1)]
  exact h2
theorem Frm.drop {i : Nat} (hi : i < 1000) : Frm ω H (drop ω i) H := ⟨hid_drop, fun a k hk h => ⟨drop_ne h (by omega), rfl⟩, fun _ h => h⟩
/-- slot i has a new content -/
theorem RS.put (r : RS K ω ss σ H) {i : Nat} {s : SV} {x : V} (hi : i < σ.length) (e : Same (hid ω H) (hid ω' H)) (ow : ∀ a k, ω' a = some k → (H a).isSome = true) (k : ∀ j a, j ≠ i → j < 1000 → ω a = some j → ω' a = some j) (h : SlR K ω' H i s x) :
    RS K ω' (ss.set i (some s)) (σ.set i (some x)) H := by
  refine ⟨by simp [r.len], by simpa using r.few, ow, fun j s' hj => ?_⟩
  by_cases hji : j = i
  · subst hji
    have hl : j < ss.length := by rw [r.len]; exact hi
    rw [List.getElem?_set_self hl] at hj
    cases hj
    exact ⟨x, by rw [List.getElem?_set_self hi], h⟩
  · rw [List.getElem?_set_ne (Ne.symm hji)] at hj
    obtain ⟨y, q1, q2⟩ := r.sl j s' hj
    have hlt : j < σ.length := (List.getElem?_eq_some_iff.mp q1).1
    have hfew := r.few
    exact ⟨y, by rw [List.getElem?_set_ne (Ne.symm hji)]; exact q1, q2.keep e fun a ha => ⟨k j a hji (by omega) ha, rfl⟩⟩
/-- .. the value as it stands there -/
theorem RS.put' (r : RS K ω ss σ H) {i : Nat} {s : SV} {x : V} (hx : σ[i]? = some (some x)) (e : Same (hid ω H) (hid ω' H)) (ow : ∀ a k, ω' a = some k → (H a).isSome = true) (k : ∀ j a, j ≠ i → j < 1000 → ω a = some j → ω' a = some j) (h : SlR K ω' H i s x) :
    RS K ω' (ss.set i (some s)) σ H := by
  have hi : i < σ.length := (List.getElem?_eq_some_iff.mp hx).1
  have q := r.put hi e ow k h
  have e : σ.set i (some x) = σ := by
    refine List.ext_getElem? fun j => ?_
    by_cases hj : j = i
    · subst hj
      rw [List.getElem?_set_self hi, hx]
    · rw [List.getElem?_set_ne (Ne.symm hj)]
  rwa [e] at q
/-- slots forgotten -/
theorem RS.weak (r : RS K ω ss σ H) {ss' : SS} (hl : ss'.length = ss.length) (h : ∀ (i : Nat) (s : SV), ss'[i]? = some (some s) → ss[i]? = some (some s)) : RS K ω ss' σ H :=
  ⟨hl.trans r.len, r.few, r.own, fun i s e => r.sl i s (h i s e)⟩
theorem same_upd {p : Addr} {o : HO} (h : H p = none) : Same H (upd H p o) := fun b x e => by
  rw [upd_ne (ne_of_none e h)]
  exact e
end
end VL

namespace VL
open PySem PySem.Spec L2
open PyProof.Rows hiding St
variable [WW]

/-- what an exception bears -/
inductive RpF (K : PySem.W.Frag) (H : Hp) : List (Str × V) → List (Str × Dt) → Prop
  | nil : RpF K H [] []
  | cons {f : Str} {x : V} {xs : List (Str × V)} {d : Dt} {ds : List (Str × Dt)} : Rp K H x d → RpF K H xs ds → RpF K H ((f, x) :: xs) ((f, d) :: ds)
theorem RpF.mono {K : PySem.W.Frag} {H H' : Hp} {xs : List (Str × V)} {ds : List (Str × Dt)} (e : Same H H') (h : RpF K H xs ds) : RpF K H' xs ds := by
  induction h with
  | nil => exact .nil
  | cons h _ ih => exact .cons (Rp.mono e _ _ h) ih
def XR (K : PySem.W.Frag) (mg : Str → Option Value) (F : Hp) (c : Str) (fs : List (Str × Dt)) (cls : Value) (dd : Option Addr) : Prop :=
  ∃ C, mg c = some (.ref C) ∧ cls = .ref C ∧ ((fs = [] ∧ dd = none) ∨ ∃ a vs, dd = some a ∧ F a = some (.xd vs) ∧ RpF K F vs fs)

theorem XR.mono {K : PySem.W.Frag} {mg : Str → Option Value} {F F' : Hp} {c : Str} {fs : List (Str × Dt)} {cls : Value} {dd : Option Addr} (e : Same F F') (h : XR K mg F c fs cls dd) : XR K mg F' c fs cls dd := by
  obtain ⟨C, h1, h2, h3⟩ := h
  refine ⟨C, h1, h2, ?_⟩
  rcases h3 with h3 | ⟨a, ws, h3, h4, h5⟩
  · exact .inl h3
  · exact .inr ⟨a, ws, h3, e _ _ h4, h5.mono e⟩
/-- what is wanted behind an evaluation that comes out as r -/
def EQg {α β : Type} (R : Om → Hp → β → α → Prop) (K : PySem.W.Frag) (mg : Str → Option Value) (W : WX) (ω : Om) (σ : St) (H : Hp) (r : EO α) (Q : β → Hp → Prop) : Prop := match r with
  | .ok d ss' => ∀ ω' H' x, RS K ω' ss' σ H' → Frm ω H ω' H' → R ω' H' x d → Q x H'
  | .exc c fs ss' => ∀ ω' H' cls dd, RS K ω' ss' σ H' → Frm ω H ω' H' → XR K mg (hid ω' H') c fs cls dd → W cls dd σ H'
  | .no => False
section
variable {α β γ δ : Type} {R : Om → Hp → β → α → Prop} {R2 : Om → Hp → δ → γ → Prop} {K : PySem.W.Frag} {mg : Str → Option Value} {W : WX} {ω ω1 : Om} {σ : St} {H H1 : Hp} {r : EO α} {Q : β → Hp → Prop}
theorem EQg.shift (h : EQg R K mg W ω σ H r Q) (fr : Frm ω H ω1 H1) : EQg R K mg W ω1 σ H1 r Q := by
  cases r with
  | ok d ss => exact fun ω' H' x rs f rp => h ω' H' x rs (fr.trans f) rp
  | exc c fs ss => exact fun ω' H' cls dd rs f xr => h ω' H' cls dd rs (fr.trans f) xr
  | no => exact h
theorem EQg.imp {Q' : β → Hp → Prop} (h : EQg R K mg W ω σ H r Q) (g : ∀ x H', Q x H' → Q' x H') : EQg R K mg W ω σ H r Q' := by
  cases r with
  | ok d ss => exact fun ω' H' x rs f rp => g _ _ (h ω' H' x rs f rp)
  | exc c fs ss => exact h
  | no => exact h
/-- one behind the other -/
theorem seqE {f : α → SS → EO γ} {Q2 : δ → Hp → Prop} (h : EQg R2 K mg W ω σ H (r.bind f) Q2)
    (k : ∀ d ss' ω' H' x, r = .ok d ss' → RS K ω' ss' σ H' → Frm ω H ω' H' → R ω' H' x d → EQg R2 K mg W ω' σ H' (f d ss') Q2 → Q x H') : EQg R K mg W ω σ H r Q := by
  cases r with
  | ok d ss => exact fun ω' H' x rs fr rp => k d ss ω' H' x rfl rs fr rp (EQg.shift h fr)
  | exc c fs ss => exact h
  | no => exact h
end

theorem seqE0 {α β γ δ : Type} {R : Om → Hp → β → α → Prop} {R2 : Om → Hp → δ → γ → Prop} {K : PySem.W.Frag} {mg : Str → Option Value} {W : WX} {ω : Om} {σ : St} {H : Hp} {r : EO α} {Q : β → Hp → Prop} {f : α → SS → EO γ} {Q2 : δ → Hp → Prop} (h : EQg R2 K mg W ω σ H (r.bind f) Q2)
    (k : ∀ d ss' ω' H' x, r = .ok d ss' → RS K ω' ss' σ H' → Frm ω H ω' H' → R ω' H' x d → EQg R2 K mg W ω σ H (f d ss') Q2 → Q x H') : EQg R K mg W ω σ H r Q := by
  cases r with
  | ok d ss => exact fun ω' H' x rs fr rp => k d ss ω' H' x rfl rs fr rp h
  | exc c fs ss => exact h
  | no => exact h
def RpE (K : PySem.W.Frag) : Om → Hp → V → Dt → Prop := fun ω H x d => Rp K (hid ω H) x d
def RpL (K : PySem.W.Frag) : Om → Hp → List V → List Dt → Prop := fun ω H x d => RpA K (hid ω H) x d
/-- an operand: data, or what the i-th name holds when it is used -/
inductive Opd where
  | da (d : Dt)
  | nm (i : Nat)
def OpdR (K : PySem.W.Frag) (σ : St) : Om → Hp → V → Opd → Prop := fun ω H x o => match o with
  | .da d => Rp K (hid ω H) x d
  | .nm i => σ[i]? = some (some x)
def Opd.get (ss : SS) : Opd → Option Dt
  | .da d => some d
  | .nm i => match ss[i]? with
    | some (some (.v d)) => some d
    | some (some (.o d)) => some d
    | some (some (.se _ d)) => some d
    | _ => none
/-- borrowed: data, or a name's own -/
def Bor (K : PySem.W.Frag) (ω : Om) (H : Hp) (x : V) (d : Dt) : Prop := Rp K (hid ω H) x d ∨ ∃ a, x = .ref a ∧ OwC K (hid ω H) a (H a) d
theorem Bor.rp {K : PySem.W.Frag} {ω : Om} {H : Hp} {x : V} {d : Dt} (h : Bor K ω H x d) : Rp K H x d := by
  rcases h with h | ⟨a, rfl, h⟩
  · exact Rp.mono hid_le _ _ h
  · exact h.rp hid_le rfl
theorem Opd.bor {K : PySem.W.Frag} {ω : Om} {ss : SS} {σ : St} {H : Hp} {x : V} {o : Opd} {d : Dt} (rs : RS K ω ss σ H) (h : OpdR K σ ω H x o) (e : o.get ss = some d) : Bor K ω H x d := by
  cases o with
  | da d' =>
    cases e
    exact .inl h
  | nm i =>
    have h : σ[i]? = some (some x) := h
    simp only [Opd.get] at e
    split at e
    · rename_i d' q
      cases e
      obtain ⟨y, q1, q2⟩ := rs.sl i _ q
      rw [h] at q1
      cases q1
      exact .inl q2
    · rename_i d' q
      cases e
      obtain ⟨y, q1, a, q2, _, q3⟩ := rs.sl i _ q
      rw [h] at q1
      cases q1
      exact .inr ⟨a, q2, q3⟩
    · rename_i a0 d' q
      cases e
      obtain ⟨y, q1, q2, _, q3⟩ := rs.sl i _ q
      rw [h] at q1
      cases q1
      exact .inr ⟨a0, q2, q3⟩
    · cases e
theorem OpdR.go {K : PySem.W.Frag} {ω ω' : Om} {σ : St} {H H' : Hp} {x : V} {o : Opd} (h : OpdR K σ ω H x o) (f : Frm ω H ω' H') : OpdR K σ ω' H' x o := by
  cases o with
  | da d' => exact Rp.mono f.fz _ _ h
  | nm i => exact h
inductive OpdA (K : PySem.W.Frag) (σ : St) (ω : Om) (H : Hp) : List V → List Opd → Prop
  | nil : OpdA K σ ω H [] []
  | cons {x : V} {xs : List V} {o : Opd} {os : List Opd} : OpdR K σ ω H x o → OpdA K σ ω H xs os → OpdA K σ ω H (x :: xs) (o :: os)

structure VC {ι : Type} (X : ι → Cx) (k : Nat) (P : Program) (w : World) (K : PySem.W.Frag) (mg : Str → Option Value) (base : Heap) (W : WX) : Prop where
  eP : ∀ i, (X i).prog = P
  hw : w = WW.w
  ew : ∀ i, (X i).w = w
  eK : ∀ i, (X i).K = K
  em : ∀ i, (X i).mg = mg
  eb : ∀ i, (X i).base = base
  rm : ∀ i, Room k (X i).A
  gd : ∀ i, (X i).A.guards = some []
  ca : ∀ i, (X i).calm = true
  nd : ∀ i, (X i).N.Nodup
  tk : ∀ i, Takes (X i) W
  po : ∀ i, PassesOwn (model (X i).prog (X i).w) (X i).A (X i).env (X i).xe
structure VE {ι : Type} (X : ι → Cx) (K : PySem.W.Frag) (mg : Str → Option Value) (W : WX) (e : Expr) (m : SS → EO Dt) : Prop where
  ex : ∃ t : TE, (∀ i, PE (X i) e t) ∧ ∀ ω ss σ H Q, RS K ω ss σ H → EQg (RpE K) K mg W ω σ H (m ss) Q → t σ H Q
structure VB {ι : Type} (X : ι → Cx) (K : PySem.W.Frag) (mg : Str → Option Value) (W : WX) (e : Expr) (m : SS → EO Opd) : Prop where
  ex : ∃ t : TE, (∀ i, PE (X i) e t) ∧ ∀ ω ss σ H Q, RS K ω ss σ H → EQg (OpdR K σ) K mg W ω σ H (m ss) Q → t σ H Q
structure VA {ι : Type} (X : ι → Cx) (K : PySem.W.Frag) (mg : Str → Option Value) (W : WX) (es : List Expr) (m : SS → EO (List Dt)) : Prop where
  ex : ∃ t : TA, (∀ i, PA (X i) es t) ∧ ∀ ω ss σ H Q, RS K ω ss σ H → EQg (RpL K) K mg W ω σ H (m ss) Q → t σ H Q
structure VBs {ι : Type} (X : ι → Cx) (K : PySem.W.Frag) (mg : Str → Option Value) (W : WX) (es : List Expr) (m : SS → EO (List Opd)) : Prop where
  ex : ∃ t : TA, (∀ i, PA (X i) es t) ∧ ∀ ω ss σ H Q, RS K ω ss σ H → EQg (OpdA K σ) K mg W ω σ H (m ss) Q → t σ H Q
def EqB : Om → Hp → Bool → Bool → Prop := fun _ _ x d => x = d
structure VT {ι : Type} (X : ι → Cx) (K : PySem.W.Frag) (mg : Str → Option Value) (W : WX) (e : Expr) (m : SS → EO Bool) : Prop where
  ex : ∃ t : TT, (∀ i, PT (X i) e t) ∧ ∀ ω ss σ H Q, RS K ω ss σ H → EQg EqB K mg W ω σ H (m ss) Q → t σ H Q
structure VW {ι : Type} (X : ι → Cx) (K : PySem.W.Frag) (mg : Str → Option Value) (W : WX) (e : Expr) (m : SS → EO Bool) : Prop where
  ex : ∃ t : TT, (∀ i, PW (X i) e t) ∧ ∀ ω ss σ H Q, RS K ω ss σ H → EQg EqB K mg W ω σ H (m ss) Q → t σ H Q
/-- a new list or dict: it will be the k-th one's own -/
def NewR (K : PySem.W.Frag) (H0 : Hp) (k : Nat) : Om → Hp → V → Dt → Prop := fun ω H x d => ∃ a, x = .ref a ∧ H0 a = none ∧ ω a = some k ∧ OwC K (hid ω H) a (H a) d
structure VO {ι : Type} (X : ι → Cx) (K : PySem.W.Frag) (mg : Str → Option Value) (W : WX) (e : Expr) (m : SS → EO Dt) : Prop where
  ex : ∃ t : TE, (∀ i, PE (X i) e t) ∧ ∀ k ω ss σ H Q, 1000 ≤ k → RS K ω ss σ H → EQg (NewR K H k) K mg W ω σ H (m ss) Q → t σ H Q
/-- behind a statement -/
def SQ (K : PySem.W.Frag) (mg : Str → Option Value) (W : WX) (D : Ends) (ω : Om) (H : Hp) (o : SO) : Prop := match o with
  | .nx ss' => ∀ ω' σ' H', RS K ω' ss' σ' H' → Frm ω H ω' H' → D.nx σ' H'
  | .bk ss' => ∀ ω' σ' H', RS K ω' ss' σ' H' → Frm ω H ω' H' → D.bk σ' H'
  | .ct ss' => ∀ ω' σ' H', RS K ω' ss' σ' H' → Frm ω H ω' H' → D.ct σ' H'
  | .rt d ss' => ∀ ω' σ' H' x, RS K ω' ss' σ' H' → Frm ω H ω' H' → Rp K (hid ω' H') x d → D.rt x H'
  | .exc c fs ss' => ∀ ω' σ' H' cls dd, RS K ω' ss' σ' H' → Frm ω H ω' H' → XR K mg (hid ω' H') c fs cls dd → W cls dd σ' H'
  | .no => False
theorem SQ.shift {K : PySem.W.Frag} {mg : Str → Option Value} {W : WX} {D : Ends} {ω ω1 : Om} {H H1 : Hp} {o : SO} (h : SQ K mg W D ω H o) (fr : Frm ω H ω1 H1) : SQ K mg W D ω1 H1 o := by
  cases o with
  | nx ss => exact fun ω' σ' H' rs f => h ω' σ' H' rs (fr.trans f)
  | bk ss => exact fun ω' σ' H' rs f => h ω' σ' H' rs (fr.trans f)
  | ct ss => exact fun ω' σ' H' rs f => h ω' σ' H' rs (fr.trans f)
  | rt d ss => exact fun ω' σ' H' x rs f rp => h ω' σ' H' x rs (fr.trans f) rp
  | exc c fs ss => exact fun ω' σ' H' cls dd rs f xr => h ω' σ' H' cls dd rs (fr.trans f) xr
  | no => exact h
def EO.st {α : Type} (x : EO α) (f : α → SS → SO) : SO := match x with
  | .ok a ss => f a ss
  | .exc c fs ss => .exc c fs ss
  | .no => .no
theorem seqS {α β : Type} {R : Om → Hp → β → α → Prop} {K : PySem.W.Frag} {mg : Str → Option Value} {W : WX} {D : Ends} {ω : Om} {σ : St} {H : Hp} {r : EO α} {f : α → SS → SO} {Q : β → Hp → Prop} (h : SQ K mg W D ω H (r.st f))
    (k : ∀ d ss' ω' H' x, r = .ok d ss' → RS K ω' ss' σ H' → Frm ω H ω' H' → R ω' H' x d → SQ K mg W D ω' H' (f d ss') → Q x H') : EQg R K mg W ω σ H r Q := by
  cases r with
  | ok d ss => exact fun ω' H' x rs fr rp => k d ss ω' H' x rfl rs fr rp (h.shift fr)
  | exc c fs ss => exact fun ω' H' cls dd rs f xr => h ω' σ H' cls dd rs f xr
  | no => exact h
/-- .. told of the start -/
theorem seqS0 {α β : Type} {R : Om → Hp → β → α → Prop} {K : PySem.W.Frag} {mg : Str → Option Value} {W : WX} {D : Ends} {ω : Om} {σ : St} {H : Hp} {r : EO α} {f : α → SS → SO} {Q : β → Hp → Prop} (h : SQ K mg W D ω H (r.st f))
    (k : ∀ d ss' ω' H' x, r = .ok d ss' → RS K ω' ss' σ H' → Frm ω H ω' H' → R ω' H' x d → SQ K mg W D ω H (f d ss') → Q x H') : EQg R K mg W ω σ H r Q := by
  cases r with
  | ok d ss => exact fun ω' H' x rs fr rp => k d ss ω' H' x rfl rs fr rp h
  | exc c fs ss => exact fun ω' H' cls dd rs f xr => h ω' σ H' cls dd rs f xr
  | no => exact h
structure VS {ι : Type} (X : ι → Cx) (K : PySem.W.Frag) (mg : Str → Option Value) (W : WX) (st : Stmt) (m : SS → SO) : Prop where
  ex : ∃ t : TS, (∀ i, PS (X i) st t) ∧ ∀ ω ss σ H D, RS K ω ss σ H → SQ K mg W D ω H (m ss) → t D σ H
structure VSs {ι : Type} (X : ι → Cx) (K : PySem.W.Frag) (mg : Str → Option Value) (W : WX) (sts : List Stmt) (m : SS → SO) : Prop where
  ex : ∃ t : TS, (∀ i, PSs (X i) sts t) ∧ ∀ ω ss σ H D, RS K ω ss σ H → SQ K mg W D ω H (m ss) → t D σ H

section
variable {ι : Type} {X : ι → Cx} {k : Nat} {P : Program} {w : World} {K : PySem.W.Frag} {mg : Str → Option Value} {base : Heap} {W : WX} {e : Expr} {es : List Expr} {pos : Pos}

def mC (d : Dt) : SS → EO Dt := fun ss => .ok d ss
theorem v_int {i : Int} {j : Nat} : VE X K mg W (.Constant (.int i) j pos) (mC (.int i)) := ⟨_, fun _ => pe_int, fun ω ss σ H Q rs h => h ω H _ rs (.refl _ _) (.int i)⟩
theorem v_bl {b : Bool} {j : Nat} : VE X K mg W (.Constant (.bool b) j pos) (mC (.bool b)) := ⟨_, fun _ => pe_bl, fun ω ss σ H Q rs h => h ω H _ rs (.refl _ _) (.bl b)⟩
theorem v_non {j : Nat} : VE X K mg W (.Constant .none j pos) (mC .none) := ⟨_, fun _ => pe_non, fun ω ss σ H Q rs h => h ω H _ rs (.refl _ _) .non⟩
theorem v_str {x : Str} {j : Nat} : VE X K mg W (.Constant (.str x) j pos) (mC (.str x)) := ⟨_, fun _ => pe_str, fun ω ss σ H Q rs h => h ω H _ rs (.refl _ _) (.str x)⟩
/-- a constant of the module -/
theorem v_glob {x : Str} {v : V} {u : Value} {d : Dt} (C : VC X k P w K mg base W) (hg : ∀ i, Gl (X i) x) (hm : mg x = some u) (r : RelV v u) (rp : ∀ H, Rp K H v d) (hd : (x == ("__debug__" : Str)) = false := by decide) : VE X K mg W (.Name x pos) (mC d) :=
  ⟨_, fun i => pe_glob (hg i) (by rw [C.em i]; exact hm) r hd, fun ω ss σ H Q rs h => h ω H _ rs (.refl _ _) (rp _)⟩
/-- the i-th name, given away: what it owned is nobody's own from then on -/
def mVar (i : Nat) : SS → EO Dt := fun ss => match ss[i]? with
  | some (some (.v d)) => .ok d ss
  | some (some (.o d)) => .ok d (ss.set i (some (.v d)))
  | _ => .no
theorem v_var (i : Nat) {x : Str} (hN : ∀ j, (X j).N[i]? = some x) (hv : ∀ j, Vis (X j).env.scope x) (hd : (x == ("__debug__" : Str)) = false := by decide) (hcd : (x == ("__classdict__" : Str)) = false := by decide) : VE X K mg W (.Name x pos) (mVar i) := by
  refine ⟨_, fun j => pe_var (hN j) (hv j) hd hcd, fun ω ss σ H Q rs h => ?_⟩
  unfold mVar at h
  split at h
  · rename_i d q
    obtain ⟨y, q1, q2⟩ := rs.sl i _ q
    exact ⟨y, q1, h ω H y rs (.refl _ _) q2⟩
  · rename_i d q
    obtain ⟨y, q1, a, rfl, q2, q3⟩ := rs.sl i _ q
    have hi : i < σ.length := (List.getElem?_eq_some_iff.mp q1).1
    have hi2 := rs.few
    have q4 : Rp K (hid (drop ω i) H) (.ref a) d := by
      have e : hid (drop ω i) H a = H a := hid_of (by unfold drop; rw [if_pos q2])
      exact q3.rp hid_drop e
    exact ⟨_, q1, h (drop ω i) H _ (rs.put' q1 hid_drop (fun b k hb => by
      unfold drop at hb
      split at hb
      · cases hb
      · exact rs.own b k hb) (fun j b hj _ hb => drop_ne hb hj) q4) (.drop (by omega)) q4⟩
  · exact h.elim
/-- .. borrowed -/
def mBor (i : Nat) : SS → EO Opd := fun ss => match ss[i]? with
  | some (some (.v d)) => .ok (.da d) ss
  | some (some (.o d)) => .ok (.nm i) ss
  | some (some (.se _ d)) => .ok (.nm i) ss
  | _ => .no
theorem b_var (i : Nat) {x : Str} (hN : ∀ j, (X j).N[i]? = some x) (hv : ∀ j, Vis (X j).env.scope x) (hd : (x == ("__debug__" : Str)) = false := by decide) (hcd : (x == ("__classdict__" : Str)) = false := by decide) : VB X K mg W (.Name x pos) (mBor i) := by
  refine ⟨_, fun j => pe_var (hN j) (hv j) hd hcd, fun ω ss σ H Q rs h => ?_⟩
  unfold mBor at h
  split at h
  · rename_i d q
    obtain ⟨y, q1, q2⟩ := rs.sl i _ q
    exact ⟨y, q1, h ω H y rs (.refl _ _) q2⟩
  · rename_i d q
    obtain ⟨y, q1, _⟩ := rs.sl i _ q
    exact ⟨y, q1, h ω H y rs (.refl _ _) q1⟩
  · rename_i a0 d q
    obtain ⟨y, q1, _⟩ := rs.sl i _ q
    exact ⟨y, q1, h ω H y rs (.refl _ _) q1⟩
  · exact h.elim
def mB (m : SS → EO Dt) : SS → EO Opd := fun ss => (m ss).bind fun d ss => .ok (.da d) ss
theorem b_val {m : SS → EO Dt} (h : VE X K mg W e m) : VB X K mg W e (mB m) := by
  obtain ⟨t, h1, h2⟩ := h.ex
  refine ⟨t, h1, fun ω ss σ H Q rs q => h2 ω ss σ H Q rs ?_⟩
  exact seqE q fun d ss' ω' H' x _ rs' fr rp q' => q' ω' H' x rs' (.refl _ _) rp
/-- a new list or dict that nobody is to change -/
theorem v_new {m : SS → EO Dt} (h : VO X K mg W e m) : VE X K mg W e m := by
  obtain ⟨t, h1, h2⟩ := h.ex
  refine ⟨t, h1, fun ω ss σ H Q rs q => h2 1000 ω ss σ H Q (Nat.le_refl _) rs ?_⟩
  cases hm : m ss with
  | no => rw [hm] at q; exact q
  | exc c fs ss' => rw [hm] at q; exact q
  | ok d ss' =>
    rw [hm] at q
    rintro ω' H' x rs' fr ⟨a, rfl, h0, ha, hc⟩
    have ω'' : ∃ ω'' : Om, ω'' = fun b => if b = a then none else ω' b := ⟨_, rfl⟩
    obtain ⟨ω'', ew⟩ := ω''
    have ea : ω'' a = none := by rw [ew]; exact if_pos rfl
    have en : ∀ b, b ≠ a → ω'' b = ω' b := fun b hb => by rw [ew]; exact if_neg hb
    have hs : Same (hid ω' H') (hid ω'' H') := fun b o hb => by
      obtain ⟨z1, z2⟩ := hid_some hb
      by_cases hba : b = a
      · rw [hba] at z1
        rw [ha] at z1
        cases z1
      · rw [hid_of ((en b hba).trans z1)]
        exact z2
    have z0 : ω a = none := rs.free h0
    refine q ω'' H' (.ref a) ⟨rs'.len, rs'.few, fun b k hb => ?_, fun i s hi => ?_⟩ ⟨fr.fz.trans hs, fun b k hk hb => ?_, fr.tr⟩ ?_
    · by_cases hba : b = a
      · rw [hba, ea] at hb
        cases hb
      · exact rs'.own b k ((en b hba).symm.trans hb)
    · obtain ⟨y, y1, y2⟩ := rs'.sl i s hi
      refine ⟨y, y1, y2.keep hs fun b hb => ⟨(en b fun z => ?_).trans hb, rfl⟩⟩
      rw [z, ha] at hb
      have hi2 : i < σ.length := (List.getElem?_eq_some_iff.mp y1).1
      have := rs'.few
      have e : 1000 = i := Option.some.inj hb
      omega
    · obtain ⟨w1, w2⟩ := fr.tp b k hk hb
      refine ⟨(en b fun z => ?_).trans w1, w2⟩
      rw [z, z0] at hb
      cases hb
    · have e : hid ω'' H' a = H' a := hid_of ea
      exact hc.rp hs e


def mNil : SS → EO (List Dt) := fun ss => .ok [] ss
def mCons (m : SS → EO Dt) (n : SS → EO (List Dt)) : SS → EO (List Dt) := fun ss => (m ss).bind fun d ss => (n ss).bind fun ds ss => .ok (d :: ds) ss
theorem a_nil : VA X K mg W [] mNil := ⟨_, fun _ => pa_nil, fun ω ss σ H Q rs h => h ω H [] rs (.refl _ _) .nil⟩
theorem a_cons {m : SS → EO Dt} {n : SS → EO (List Dt)} (he : VE X K mg W e m) (hs : VA X K mg W es n) (hst : ∀ i, starEach (e :: es) (X i).env = (false, eval e (X i).env) :: starEach es (X i).env := by intro _; rfl) : VA X K mg W (e :: es) (mCons m n) := by
  obtain ⟨t, h1, h2⟩ := he.ex
  obtain ⟨u, g1, g2⟩ := hs.ex
  refine ⟨tCons t u, fun i => pa_cons (h1 i) (g1 i) (hst i), fun ω ss σ H Q rs q => h2 ω ss σ H _ rs ?_⟩
  refine seqE q fun d ss1 ω1 H1 x _ rs1 fr1 rp1 q1 => g2 ω1 ss1 σ H1 _ rs1 ?_
  refine seqE q1 fun ds ss2 ω2 H2 xs _ rs2 fr2 rp2 q2 => ?_
  exact q2 ω2 H2 _ rs2 (.refl _ _) (.cons (Rp.mono fr2.fz _ _ rp1) rp2)
def mNilB : SS → EO (List Opd) := fun ss => .ok [] ss
def mConsB (m : SS → EO Opd) (n : SS → EO (List Opd)) : SS → EO (List Opd) := fun ss => (m ss).bind fun d ss => (n ss).bind fun ds ss => .ok (d :: ds) ss
theorem OpdA.go {ω ω' : Om} {σ : St} {H H' : Hp} (f : Frm ω H ω' H') : ∀ {os : List Opd} {xs : List V}, OpdA K σ ω H xs os → OpdA K σ ω' H' xs os
  | [], _, h => by cases h; exact .nil
  | o :: os, _, h => by
    cases h with
    | cons h1 h2 => exact .cons (h1.go f) (OpdA.go f h2)
theorem bs_nil : VBs X K mg W [] mNilB := ⟨_, fun _ => pa_nil, fun ω ss σ H Q rs h => h ω H [] rs (.refl _ _) .nil⟩
theorem bs_cons {m : SS → EO Opd} {n : SS → EO (List Opd)} (he : VB X K mg W e m) (hs : VBs X K mg W es n) (hst : ∀ i, starEach (e :: es) (X i).env = (false, eval e (X i).env) :: starEach es (X i).env := by intro _; rfl) : VBs X K mg W (e :: es) (mConsB m n) := by
  obtain ⟨t, h1, h2⟩ := he.ex
  obtain ⟨u, g1, g2⟩ := hs.ex
  refine ⟨tCons t u, fun i => pa_cons (h1 i) (g1 i) (hst i), fun ω ss σ H Q rs q => h2 ω ss σ H _ rs ?_⟩
  refine seqE q fun d ss1 ω1 H1 x _ rs1 fr1 rp1 q1 => g2 ω1 ss1 σ H1 _ rs1 ?_
  refine seqE q1 fun ds ss2 ω2 H2 xs _ rs2 fr2 rp2 q2 => ?_
  exact q2 ω2 H2 _ rs2 (.refl _ _) (.cons (rp1.go fr2) rp2)
/-- room for a list, a tuple, a text -/
def fit {α : Type} (n : Nat) (x : EO α) : EO α := if n ≤ sizeLine then x else .no
def mTup (n : SS → EO (List Dt)) : SS → EO Dt := fun ss => (n ss).bind fun ds ss => fit ds.length (.ok (.tuple ds) ss)
def mLst (n : SS → EO (List Dt)) : SS → EO Dt := fun ss => (n ss).bind fun ds ss => fit ds.length (.ok (.list ds) ss)
theorem fitE {α β : Type} {R : Om → Hp → β → α → Prop} {ω : Om} {σ : St} {H : Hp} {n : Nat} {x : EO α} {Q : β → Hp → Prop} (h : EQg R K mg W ω σ H (fit n x) Q) : n ≤ sizeLine ∧ EQg R K mg W ω σ H x Q := by
  unfold fit at h
  split at h
  · exact ⟨by assumption, h⟩
  · exact h.elim
theorem v_tup {n : SS → EO (List Dt)} {z : Nat} (hs : VA X K mg W es n) : VE X K mg W (.Tuple es z pos) (mTup n) := by
  obtain ⟨u, g1, g2⟩ := hs.ex
  refine ⟨tTup u, fun i => pe_tup (g1 i), fun ω ss σ H Q rs q => g2 ω ss σ H _ rs ?_⟩
  refine seqE q fun ds ss1 ω1 H1 xs _ rs1 fr1 rp1 q1 => ?_
  obtain ⟨hz, q1⟩ := fitE q1
  refine ⟨by rw [rp1.length]; exact hz, fun p hp => ?_⟩
  have hs : Same H1 (upd H1 p (.tup xs)) := same_upd hp
  refine q1 ω1 _ _ (rs1.grow hs) (.grow hs rs1.own) (.tup (.of ?_) (RpA.mono (hid_same hs) _ _ rp1))
  rw [hid_of (rs1.free hp), upd_same]
/-- a new object of the k-th one's own -/
theorem RS.new {ω : Om} {ss : SS} {σ : St} {H : Hp} (rs : RS K ω ss σ H) {p : Addr} {o : HO} {k : Nat} (hk : 1000 ≤ k) (hp : H p = none) : ∃ ω' : Om, ω' p = some k ∧ RS K ω' ss σ (upd H p o) ∧ Frm ω H ω' (upd H p o) ∧ Same (hid ω H) (hid ω' (upd H p o)) := by
  have z : ω p = none := rs.free hp
  have en : ∀ b, b ≠ p → (fun b => if b = p then some k else ω b) b = ω b := fun b hb => if_neg hb
  have hs : Same (hid ω H) (hid (fun b => if b = p then some k else ω b) (upd H p o)) := fun b u hb => by
    obtain ⟨z1, z2⟩ := hid_some hb
    have hbp : b ≠ p := fun e => by rw [e, hp] at z2; cases z2
    rw [hid_of ((en b hbp).trans z1), upd_ne hbp]
    exact z2
  refine ⟨fun b => if b = p then some k else ω b, if_pos rfl, ⟨rs.len, rs.few, fun b j hb => ?_, fun i s hi => ?_⟩, ⟨hs, fun b j hj hb => ?_, fun b hb => (same_upd hp).free hb⟩, hs⟩
  · by_cases hbp : b = p
    · rw [hbp, upd_same]; rfl
    · rw [upd_ne hbp]
      exact rs.own b j ((en b hbp).symm.trans hb)
  · obtain ⟨y, y1, y2⟩ := rs.sl i s hi
    refine ⟨y, y1, y2.keep hs fun b hb => ?_⟩
    have hbp : b ≠ p := fun e => by rw [e, z] at hb; cases hb
    exact ⟨(en b hbp).trans hb, upd_ne hbp⟩
  · have hbp : b ≠ p := fun e => by rw [e, z] at hb; cases hb
    exact ⟨(en b hbp).trans hb, upd_ne hbp⟩
theorem o_lst {n : SS → EO (List Dt)} (hs : VA X K mg W es n) : VO X K mg W (.List es pos) (mLst n) := by
  obtain ⟨u, g1, g2⟩ := hs.ex
  refine ⟨tLst u, fun i => pe_lst (g1 i), fun k ω ss σ H Q hk rs q => g2 ω ss σ H _ rs ?_⟩
  cases hm : n ss with
  | no => unfold mLst at q; rw [hm] at q; exact q
  | exc c fs ss' => unfold mLst at q; rw [hm] at q; exact q
  | ok ds ss1 =>
    unfold mLst at q
    rw [hm] at q
    obtain ⟨hz, q⟩ := fitE q
    rintro ω1 H1 xs rs1 fr1 rp1
    refine ⟨by rw [rp1.length]; exact hz, fun p hp => ?_⟩
    obtain ⟨ω2, e2, rs2, fr2, hs2⟩ := rs1.new (o := .lst xs) hk hp
    exact q ω2 _ _ rs2 (fr1.trans fr2) ⟨p, rfl, fr1.tr p hp, e2, .inl ⟨ds, xs, rfl, upd_same, RpA.mono hs2 _ _ rp1⟩⟩
end
end VL

namespace VL
open PySem PySem.Spec L2
open PyProof.Rows hiding St
variable [WW]

mutual
theorem Rp.dp {K : PySem.W.Frag} {H : Hp} : ∀ (d : Dt) (x : V), d.canLay0 = true → Rp K H x d → Dp K H x d
  | .none, _, _, h => by cases h; exact .non
  | .bool b, _, _, h => by cases h; exact .bl b
  | .int i, _, _, h => by cases h; exact .int i
  | .str s, _, _, h => by cases h; exact .str s
  | .list ds, _, c, h => by
    cases h with
    | lst hs ha => exact .lst (.of hs) (RpA.dp ds _ (by simpa [PyData.canLay0] using c) ha)
  | .tuple ds, _, c, h => by
    cases h with
    | tup hs ha => exact .tup hs (RpA.dp ds _ (by simpa [PyData.canLay0] using c) ha)
  | .dict ds, _, c, h => by simp [PyData.canLay0] at c
theorem RpA.dp {K : PySem.W.Frag} {H : Hp} : ∀ (ds : List Dt) (xs : List V), PyData.canLayAll0 ds = true → RpA K H xs ds → DpAll K H xs ds
  | [], _, _, h => by cases h; exact .nil
  | d :: ds, _, c, h => by
    cases h with
    | cons h1 h2 =>
      have c' : d.canLay0 = true ∧ PyData.canLayAll0 ds = true := by simpa [PyData.canLayAll0] using c
      exact .cons (Rp.dp d _ c'.1 h1) (RpA.dp ds _ c'.2 h2)
end
theorem shaped_lay {d : Dt} (h : SeqAt.shaped d = true) : d.canLay0 = true := by
  unfold SeqAt.shaped at h
  simp only [Bool.and_eq_true] at h
  exact h.1

section
variable {ι : Type} {X : ι → Cx} {k : Nat} {P : Program} {w : World} {K : PySem.W.Frag} {mg : Str → Option Value} {base : Heap} {W : WX} {e a b c : Expr} {es : List Expr} {pos : Pos}

structure CmpS (X : ι → Cx) (K : PySem.W.Frag) (op : CmpOp) (f : Dt → Dt → Option Bool) : Prop where
  ex : ∃ r : R2, (∀ i, OpR (X i) (compareOp op) r) ∧ ∀ ω H x y d e z (Q : VK), Bor K ω H x d → Bor K ω H y e → f d e = some z → Q (.bl z) H → r x y H Q
/-- one or the other -/
def alt {α β γ : Type} (f g : α → β → Option γ) : α → β → Option γ := fun x y => match f x y with
  | some z => some z
  | none => g x y
theorem CmpS.or {op : CmpOp} {f g : Dt → Dt → Option Bool} (h1 : CmpS X K op f) (h2 : CmpS X K op g) : CmpS X K op (alt f g) := by
  obtain ⟨r, a1, a2⟩ := h1.ex
  obtain ⟨u, b1, b2⟩ := h2.ex
  refine ⟨_, fun i => (a1 i).or (b1 i), fun ω H x y d e z Q bx by' hf q => ?_⟩
  unfold alt at hf
  cases hz : f d e with
  | some z' =>
    rw [hz] at hf
    cases hf
    exact .inl (a2 ω H x y d e _ Q bx by' hz q)
  | none =>
    rw [hz] at hf
    exact .inr (b2 ω H x y d e z Q bx by' hf q)
def fEq : Dt → Dt → Option Bool := fun d e => if SeqAt.shaped d = true ∧ SeqAt.shaped e = true then some (PyData.eqv d e) else none
def fNe : Dt → Dt → Option Bool := fun d e => if SeqAt.shaped d = true ∧ SeqAt.shaped e = true then some (!PyData.eqv d e) else none
theorem c_eq (C : VC X k P w K mg base W) : CmpS X K .Eq fEq := by
  refine ⟨rEqD K, fun i => ?_, fun ω H x y d e z Q bx by' hf q => ?_⟩
  · rw [← C.eK i]
    exact op_eqD (C.rm i).units
  · unfold fEq at hf
    split at hf
    · rename_i hs
      cases hf
      exact ⟨d, e, Rp.dp _ _ (shaped_lay hs.1) bx.rp, Rp.dp _ _ (shaped_lay hs.2) by'.rp, hs.1, hs.2, q⟩
    · cases hf
theorem c_ne (C : VC X k P w K mg base W) : CmpS X K .NotEq fNe := by
  refine ⟨rNeD K, fun i => ?_, fun ω H x y d e z Q bx by' hf q => ?_⟩
  · rw [← C.eK i]
    exact op_neD (C.rm i).units
  · unfold fNe at hf
    split at hf
    · rename_i hs
      cases hf
      exact ⟨d, e, Rp.dp _ _ (shaped_lay hs.1) bx.rp, Rp.dp _ _ (shaped_lay hs.2) by'.rp, hs.1, hs.2, q⟩
    · cases hf
def fInt (f : Int → Int → Bool) : Dt → Dt → Option Bool := fun d e => match d, e with
  | .int i, .int j => some (f i j)
  | _, _ => none
theorem c_int {op : CmpOp} {f : Int → Int → Bool} (h : ∀ i, OpR (X i) (compareOp op) (rI0 fun i j => .bl (f i j))) : CmpS X K op (fInt f) := by
  refine ⟨_, h, fun ω H x y d e z Q bx by' hf q => ?_⟩
  unfold fInt at hf
  split at hf
  · cases hf
    have h1 := bx.rp
    have h2 := by'.rp
    cases h1
    cases h2
    exact ⟨_, _, rfl, rfl, q⟩
  · cases hf
abbrev fLt := fInt fun i j => decide (i < j)
abbrev fLe := fInt fun i j => decide (i ≤ j)
abbrev fGt := fInt fun i j => decide (j < i)
abbrev fGe := fInt fun i j => decide (j ≤ i)
theorem c_lt : CmpS X K .Lt fLt := c_int fun _ => op_lt
theorem c_le : CmpS X K .LtE fLe := c_int fun _ => op_le
theorem c_gt : CmpS X K .Gt fGt := c_int fun _ => op_gt
theorem c_ge : CmpS X K .GtE fGe := c_int fun _ => op_ge
def isN : Dt → Bool
  | .none => true
  | _ => false
theorem isN_rp {H : Hp} {x : V} {d : Dt} (h : Rp K H x d) : decide (x = V.non) = isN d := by
  cases h <;> first | rfl | exact decide_eq_false (fun z => nomatch z)
def fIs : Dt → Dt → Option Bool := fun d e => if isN e = true then some (isN d) else none
def fIsNot : Dt → Dt → Option Bool := fun d e => if isN e = true then some (!isN d) else none
theorem c_is : CmpS X K .Is fIs := by
  refine ⟨_, fun _ => op_isN, fun ω H x y d e z Q bx by' hf q => ?_⟩
  unfold fIs at hf
  split at hf
  · rename_i he
    cases hf
    have h2 := isN_rp by'.rp
    rw [he] at h2
    exact ⟨of_decide_eq_true h2, by rw [isN_rp bx.rp]; exact q⟩
  · cases hf
theorem c_isNot : CmpS X K .IsNot fIsNot := by
  refine ⟨_, fun _ => op_notN, fun ω H x y d e z Q bx by' hf q => ?_⟩
  unfold fIsNot at hf
  split at hf
  · rename_i he
    cases hf
    have h2 := isN_rp by'.rp
    rw [he] at h2
    exact ⟨of_decide_eq_true h2, by rw [isN_rp bx.rp]; exact q⟩
  · cases hf
/-- one sign in a text -/
def fSign (neg : Bool) : Dt → Dt → Option Bool := fun d e => match d, e with
  | .str ⟨⟨[c]⟩⟩, .str z => some (if neg then !decide (c ∈ z.cps.toList) else decide (c ∈ z.cps.toList))
  | _, _ => none
theorem c_inSign : CmpS X K .In (fSign false) := by
  refine ⟨_, fun _ => op_in_sign, fun ω H x y d e z Q bx by' hf q => ?_⟩
  unfold fSign at hf
  split at hf
  · cases hf
    have h1 := bx.rp
    have h2 := by'.rp
    cases h1
    cases h2
    exact ⟨_, _, rfl, rfl, q⟩
  · cases hf
theorem c_notInSign : CmpS X K .NotIn (fSign true) := by
  refine ⟨_, fun _ => op_notIn_sign, fun ω H x y d e z Q bx by' hf q => ?_⟩
  unfold fSign at hf
  split at hf
  · cases hf
    have h1 := bx.rp
    have h2 := by'.rp
    cases h1
    cases h2
    exact ⟨_, _, rfl, rfl, q⟩
  · cases hf
/-- a flat thing in a list or tuple of flat things -/
def flatD : Dt → Bool
  | .none => true | .bool _ => true | .int _ => true | .str _ => true | _ => false
def toV : Dt → V
  | .none => .non | .bool b => .bl b | .int i => .int i | .str s => .str s | _ => .non
theorem flat_rp {H : Hp} {x : V} {d : Dt} (h : Rp K H x d) (f : flatD d = true) : x = toV d ∧ flatV x = true := by
  cases h <;> first | exact ⟨rfl, rfl⟩ | exact absurd (show false = true from f) Bool.false_ne_true
theorem flat_rpa {H : Hp} : ∀ {ds : List Dt} {xs : List V}, RpA K H xs ds → ds.all flatD = true → xs = ds.map toV ∧ xs.all flatV = true
  | [], _, h, _ => by cases h; exact ⟨rfl, rfl⟩
  | d :: ds, _, h, f => by
    cases h with
    | cons h1 h2 =>
      rw [List.all_cons, Bool.and_eq_true] at f
      obtain ⟨e1, f1⟩ := flat_rp h1 f.1
      obtain ⟨e2, f2⟩ := flat_rpa h2 f.2
      subst e2
      exact ⟨by rw [List.map_cons, e1], by rw [List.all_cons, f1, f2]; rfl⟩
def seqD : Dt → Option (List Dt)
  | .list ds => some ds
  | .tuple ds => some ds
  | _ => none
theorem seq_rp {H : Hp} {y : V} {d : Dt} {ds : List Dt} (h : Rp K H y d) (s : seqD d = some ds) : ∃ p xs, y = .ref p ∧ (SqL K H p xs ∨ SqT K H p xs) ∧ RpA K H xs ds := by
  cases h with
  | lst h1 h2 => cases s; exact ⟨_, _, rfl, .inl (.of h1), h2⟩
  | tup h1 h2 => cases s; exact ⟨_, _, rfl, .inr h1, h2⟩
  | _ => cases s
def fInSeq (neg : Bool) : Dt → Dt → Option Bool := fun d e => match seqD e with
  | some ds => if flatD d = true ∧ ds.all flatD = true then some (if neg then !inV (toV d) (ds.map toV) else inV (toV d) (ds.map toV)) else none
  | none => none
theorem inSeq_go {neg : Bool} {ω : Om} {H : Hp} {x y : V} {d e : Dt} {z : Bool} {Q : VK} (bx : Bor K ω H x d) (by' : Bor K ω H y e) (hf : fInSeq neg d e = some z) (q : Q (.bl z) H) : rIn K neg x y H Q := by
  unfold fInSeq at hf
  split at hf
  · rename_i ds hs
    split at hf
    · rename_i hh
      cases hf
      obtain ⟨p, xs, rfl, h1, h2⟩ := seq_rp by'.rp hs
      obtain ⟨e1, f1⟩ := flat_rp bx.rp hh.1
      obtain ⟨e2, f2⟩ := flat_rpa h2 hh.2
      subst e1 e2
      exact ⟨p, _, rfl, h1, f1, f2, q⟩
    · cases hf
  · cases hf
theorem c_inSeq (C : VC X k P w K mg base W) : CmpS X K .In (fInSeq false) :=
  ⟨rIn K false, fun i => by rw [← C.eK i]; exact op_in_seq, fun ω H x y d e z Q bx by' hf q => inSeq_go bx by' hf q⟩
theorem c_notInSeq (C : VC X k P w K mg base W) : CmpS X K .NotIn (fInSeq true) :=
  ⟨rIn K true, fun i => by rw [← C.eK i]; exact op_notIn_seq, fun ω H x y d e z Q bx by' hf q => inSeq_go bx by' hf q⟩
/-- anything in a list -/
def fInD (neg : Bool) : Dt → Dt → Option Bool := fun d e => match e with
  | .list ds => if SeqAt.shaped d = true ∧ SeqAt.shaped (.list ds) = true then some (if neg then !ds.any fun z => PyData.eqv z d else ds.any fun z => PyData.eqv z d) else none
  | _ => none
theorem c_inD (C : VC X k P w K mg base W) : CmpS X K .In (fInD false) := by
  refine ⟨rInD K, fun i => ?_, fun ω H x y d e z Q bx by' hf q => ?_⟩
  · rw [← C.eK i]
    exact op_inD (by have := (C.rm i).un; omega)
  · unfold fInD at hf
    split at hf
    · rename_i ds
      split at hf
      · rename_i hs
        cases hf
        exact ⟨d, ds, Rp.dp _ _ (shaped_lay hs.1) bx.rp, Rp.dp _ _ (shaped_lay hs.2) by'.rp, hs.1, hs.2, q⟩
      · cases hf
    · cases hf
theorem c_notInD (C : VC X k P w K mg base W) : CmpS X K .NotIn (fInD true) := by
  refine ⟨rNotInD K, fun i => ?_, fun ω H x y d e z Q bx by' hf q => ?_⟩
  · rw [← C.eK i]
    exact op_notInD (by have := (C.rm i).un; omega)
  · unfold fInD at hf
    split at hf
    · rename_i ds
      split at hf
      · rename_i hs
        cases hf
        exact ⟨d, ds, Rp.dp _ _ (shaped_lay hs.1) bx.rp, Rp.dp _ _ (shaped_lay hs.2) by'.rp, hs.1, hs.2, q⟩
      · cases hf
    · cases hf
def fIn : Dt → Dt → Option Bool := alt (fSign false) (alt (fInSeq false) (fInD false))
def fNotIn : Dt → Dt → Option Bool := alt (fSign true) (alt (fInSeq true) (fInD true))
theorem c_in (C : VC X k P w K mg base W) : CmpS X K .In fIn := c_inSign.or ((c_inSeq C).or (c_inD C))
theorem c_notIn (C : VC X k P w K mg base W) : CmpS X K .NotIn fNotIn := c_notInSign.or ((c_notInSeq C).or (c_notInD C))

/-- the operands as they stand when they are used -/
def two {α : Type} (f : Dt → Dt → Option α) (o p : Opd) (ss : SS) : Option α := match o.get ss, p.get ss with
  | some d, some e => f d e
  | _, _ => none
theorem two_some {α : Type} {f : Dt → Dt → Option α} {o p : Opd} {ss : SS} {z : α} (h : two f o p ss = some z) : ∃ d e, o.get ss = some d ∧ p.get ss = some e ∧ f d e = some z := by
  unfold two at h
  split at h
  · rename_i d e h1 h2
    exact ⟨d, e, h1, h2, h⟩
  · cases h
def mCmp (f : Dt → Dt → Option Bool) (m n : SS → EO Opd) : SS → EO Bool := fun ss => (m ss).bind fun o ss => (n ss).bind fun p ss => .lift (two f o p ss) ss
def mBl (m : SS → EO Bool) : SS → EO Dt := fun ss => (m ss).bind fun d ss => .ok (.bool d) ss
theorem lift_get {α β : Type} {R : Om → Hp → β → α → Prop} {ω : Om} {σ : St} {H : Hp} {ss : SS} {x : Option α} {Q : β → Hp → Prop} (h : EQg R K mg W ω σ H (.lift x ss) Q) : ∃ z, x = some z ∧ EQg R K mg W ω σ H (.ok z ss) Q := by
  cases x with
  | none => exact h.elim
  | some z => exact ⟨z, rfl, h⟩
theorem cmp_go {op : CmpOp} {f : Dt → Dt → Option Bool} {m n : SS → EO Opd} (hm : VB X K mg W a m) (hn : VB X K mg W b n) (hc : CmpS X K op f) : ∃ (r : R2) (ta tb : TE), (∀ i, OpR (X i) (compareOp op) r) ∧ (∀ i, PE (X i) a ta) ∧ (∀ i, PE (X i) b tb) ∧
    ∀ ω ss σ H (Q : VK), RS K ω ss σ H → EQg EqB K mg W ω σ H (mCmp f m n ss) (fun k H' => Q (.bl k) H') → tOp r ta tb σ H Q := by
  obtain ⟨r, a1, a2⟩ := hc.ex
  obtain ⟨t, h1, h2⟩ := hm.ex
  obtain ⟨u, g1, g2⟩ := hn.ex
  refine ⟨r, t, u, a1, h1, g1, fun ω ss σ H Q rs q => h2 ω ss σ H _ rs ?_⟩
  refine seqE q fun o ss1 ω1 H1 x _ rs1 fr1 rp1 q1 => g2 ω1 ss1 σ H1 _ rs1 ?_
  refine seqE q1 fun p ss2 ω2 H2 y _ rs2 fr2 rp2 q2 => ?_
  obtain ⟨z, hz, q2⟩ := lift_get q2
  obtain ⟨d, e, e1, e2, e3⟩ := two_some hz
  exact a2 ω2 H2 x y d e z _ (Opd.bor rs2 (rp1.go fr2) e1) (Opd.bor rs2 rp2 e2) e3 (q2 ω2 H2 z rs2 (.refl _ _) rfl)
theorem t_cmp {op : CmpOp} {f : Dt → Dt → Option Bool} {m n : SS → EO Opd} (hm : VB X K mg W a m) (hn : VB X K mg W b n) (hc : CmpS X K op f) (hk : behindInMarks op b = false) : VT X K mg W (.Compare a [op] [b] pos) (mCmp f m n) := by
  obtain ⟨r, t, u, a1, h1, g1, g⟩ := cmp_go hm hn hc
  exact ⟨_, fun i => pt_cmpR (a1 i) (h1 i) (g1 i) hk, fun ω ss σ H Q rs q => g ω ss σ H _ rs (q.imp fun k H' h => ⟨k, rfl, h⟩)⟩
theorem blE {r : EO Bool} {ω : Om} {σ : St} {H : Hp} {Q : VK} (q : EQg (RpE K) K mg W ω σ H (r.bind fun d ss => .ok (.bool d) ss) Q) : EQg EqB K mg W ω σ H r (fun k H' => Q (.bl k) H') :=
  seqE q fun d ss1 ω1 H1 x _ rs1 fr1 rp1 q1 => by
    cases rp1
    exact q1 ω1 H1 (.bl d) rs1 (.refl _ _) (.bl d)
theorem v_cmp {op : CmpOp} {f : Dt → Dt → Option Bool} {m n : SS → EO Opd} (hm : VB X K mg W a m) (hn : VB X K mg W b n) (hc : CmpS X K op f) (hk : behindInMarks op b = false) : VE X K mg W (.Compare a [op] [b] pos) (mBl (mCmp f m n)) := by
  obtain ⟨r, t, u, a1, h1, g1, g⟩ := cmp_go hm hn hc
  exact ⟨_, fun i => pe_cmpR (a1 i) (h1 i) (g1 i) hk, fun ω ss σ H Q rs q => g ω ss σ H Q rs (blE q)⟩
/-- a op b op' c -/
def mChain (f g : Dt → Dt → Option Bool) (m n l : SS → EO Opd) : SS → EO Bool := fun ss => (m ss).bind fun o ss => (n ss).bind fun p ss => (EO.lift (two f o p ss) ss).bind fun z ss =>
  if z = true then (l ss).bind fun q ss => .lift (two g p q ss) ss else .ok false ss
theorem chain_go {op op' : CmpOp} {f f' : Dt → Dt → Option Bool} {m n l : SS → EO Opd} (hm : VB X K mg W a m) (hn : VB X K mg W b n) (hl : VB X K mg W c l) (hc : CmpS X K op f) (hc' : CmpS X K op' f') : ∃ (r r' : R2) (ta tb tc : TE), (∀ i, OpR (X i) (compareOp op) r) ∧ (∀ i, OpR (X i) (compareOp op') r') ∧
    (∀ i, PE (X i) a ta) ∧ (∀ i, PE (X i) b tb) ∧ (∀ i, PE (X i) c tc) ∧ ∀ ω ss σ H (Q : VK), RS K ω ss σ H → EQg EqB K mg W ω σ H (mChain f f' m n l ss) (fun k H' => Q (.bl k) H') → tChain r r' ta tb tc σ H Q := by
  obtain ⟨r, a1, a2⟩ := hc.ex
  obtain ⟨r', b1, b2⟩ := hc'.ex
  obtain ⟨t, h1, h2⟩ := hm.ex
  obtain ⟨u, g1, g2⟩ := hn.ex
  obtain ⟨v, l1, l2⟩ := hl.ex
  refine ⟨r, r', t, u, v, a1, b1, h1, g1, l1, fun ω ss σ H Q rs q => h2 ω ss σ H _ rs ?_⟩
  refine seqE q fun o ss1 ω1 H1 x _ rs1 fr1 rp1 q1 => g2 ω1 ss1 σ H1 _ rs1 ?_
  refine seqE q1 fun p ss2 ω2 H2 y _ rs2 fr2 rp2 q2 => ?_
  cases hz : two f o p ss2 with
  | none => rw [hz] at q2; exact q2.elim
  | some z =>
    rw [hz] at q2
    obtain ⟨d, e, e1, e2, e3⟩ := two_some hz
    refine a2 ω2 H2 x y d e z _ (Opd.bor rs2 (rp1.go fr2) e1) (Opd.bor rs2 rp2 e2) e3 ⟨z, rfl, ?_⟩
    have q2 : EQg EqB K mg W ω2 σ H2 (if z = true then (l ss2).bind fun q ss => .lift (two f' p q ss) ss else .ok false ss2) (fun k H' => Q (.bl k) H') := q2
    cases z with
    | false =>
      rw [if_neg Bool.false_ne_true] at q2 ⊢
      exact q2 ω2 H2 false rs2 (.refl _ _) rfl
    | true =>
      rw [if_pos rfl] at q2 ⊢
      refine l2 ω2 ss2 σ H2 _ rs2 (seqE q2 fun o3 ss3 ω3 H3 x3 _ rs3 fr3 rp3 q3 => ?_)
      obtain ⟨z3, hz3, q3⟩ := lift_get q3
      obtain ⟨d', e', i1, i2, i3⟩ := two_some hz3
      exact b2 ω3 H3 y x3 d' e' z3 _ (Opd.bor rs3 (rp2.go fr3) i1) (Opd.bor rs3 rp3 i2) i3 (q3 ω3 H3 z3 rs3 (.refl _ _) rfl)
theorem t_chain {op op' : CmpOp} {f f' : Dt → Dt → Option Bool} {m n l : SS → EO Opd} (hm : VB X K mg W a m) (hn : VB X K mg W b n) (hl : VB X K mg W c l) (hc : CmpS X K op f) (hc' : CmpS X K op' f') (hk : lastMarks [op, op'] [b, c] = false := by with_unfolding_all rfl) :
    VT X K mg W (.Compare a [op, op'] [b, c] pos) (mChain f f' m n l) := by
  obtain ⟨r, r', t, u, v, a1, b1, h1, g1, l1, g⟩ := chain_go hm hn hl hc hc'
  exact ⟨_, fun i => pt_chain (a1 i) (b1 i) (h1 i) (g1 i) (l1 i) hk, fun ω ss σ H Q rs q => g ω ss σ H _ rs (q.imp fun k H' h => ⟨k, rfl, h⟩)⟩
theorem v_chain {op op' : CmpOp} {f f' : Dt → Dt → Option Bool} {m n l : SS → EO Opd} (hm : VB X K mg W a m) (hn : VB X K mg W b n) (hl : VB X K mg W c l) (hc : CmpS X K op f) (hc' : CmpS X K op' f') (hk : lastMarks [op, op'] [b, c] = false := by with_unfolding_all rfl) :
    VE X K mg W (.Compare a [op, op'] [b, c] pos) (mBl (mChain f f' m n l)) := by
  obtain ⟨r, r', t, u, v, a1, b1, h1, g1, l1, g⟩ := chain_go hm hn hl hc hc'
  exact ⟨_, fun i => pe_chain (a1 i) (b1 i) (h1 i) (g1 i) (l1 i) hk, fun ω ss σ H Q rs q => g ω ss σ H Q rs (blE q)⟩

def toB (m : SS → EO Dt) : SS → EO Bool := fun ss => (m ss).bind fun d ss => match d with
  | .bool z => .ok z ss
  | _ => .no
/-- an expression whose value is a bool -/
theorem t_val {m : SS → EO Dt} (h : VE X K mg W e m) (he : ∀ i whole, isTrue e (X i).env whole = (do let v ← whole; standAt e.pos; holding [v] (truthy v)) := by intro _ _; rfl) : VT X K mg W e (toB m) := by
  obtain ⟨t, h1, h2⟩ := h.ex
  refine ⟨_, fun i => pt_val (h1 i) (he i), fun ω ss σ H Q rs q => h2 ω ss σ H _ rs ?_⟩
  refine seqE q fun d ss1 ω1 H1 x _ rs1 fr1 rp1 q1 => ?_
  cases rp1 with
  | bl z => exact ⟨z, rfl, q1 ω1 H1 z rs1 (.refl _ _) rfl⟩
  | _ => exact q1.elim
def mNot (m : SS → EO Bool) : SS → EO Bool := fun ss => (m ss).bind fun d ss => .ok (!d) ss
theorem t_not {m : SS → EO Bool} (h : VT X K mg W a m) : VT X K mg W (.UnaryOp .Not a pos) (mNot m) := by
  obtain ⟨t, h1, h2⟩ := h.ex
  refine ⟨_, fun i => pt_not (h1 i), fun ω ss σ H Q rs q => h2 ω ss σ H _ rs ?_⟩
  refine seqE q fun d ss1 ω1 H1 x _ rs1 fr1 rp1 q1 => ?_
  cases rp1
  exact q1 ω1 H1 _ rs1 (.refl _ _) rfl
def mAnd (m n : SS → EO Bool) : SS → EO Bool := fun ss => (m ss).bind fun d ss => if d = true then n ss else .ok false ss
def mOr (m n : SS → EO Bool) : SS → EO Bool := fun ss => (m ss).bind fun d ss => if d = true then .ok true ss else n ss
theorem w_and1 {m : SS → EO Bool} (h : VT X K mg W a m) : VW X K mg W (.BoolOp .And [a] pos) m := let ⟨t, h1, h2⟩ := h.ex; ⟨t, fun i => pw_and1 (h1 i), h2⟩
theorem w_or1 {m : SS → EO Bool} (h : VT X K mg W a m) : VW X K mg W (.BoolOp .Or [a] pos) m := let ⟨t, h1, h2⟩ := h.ex; ⟨t, fun i => pw_or1 (h1 i), h2⟩
theorem w_and {m n : SS → EO Bool} (h : VT X K mg W a m) (g : VW X K mg W (.BoolOp .And (b :: es) pos) n) : VW X K mg W (.BoolOp .And (a :: b :: es) pos) (mAnd m n) := by
  obtain ⟨t, h1, h2⟩ := h.ex
  obtain ⟨u, g1, g2⟩ := g.ex
  refine ⟨_, fun i => pw_and (h1 i) (g1 i), fun ω ss σ H Q rs q => h2 ω ss σ H _ rs ?_⟩
  refine seqE q fun d ss1 ω1 H1 x _ rs1 fr1 rp1 q1 => ?_
  cases rp1
  cases d with
  | true => exact g2 ω1 ss1 σ H1 _ rs1 q1
  | false => exact q1 ω1 H1 _ rs1 (.refl _ _) rfl
theorem w_or {m n : SS → EO Bool} (h : VT X K mg W a m) (g : VW X K mg W (.BoolOp .Or (b :: es) pos) n) : VW X K mg W (.BoolOp .Or (a :: b :: es) pos) (mOr m n) := by
  obtain ⟨t, h1, h2⟩ := h.ex
  obtain ⟨u, g1, g2⟩ := g.ex
  refine ⟨_, fun i => pw_or (h1 i) (g1 i), fun ω ss σ H Q rs q => h2 ω ss σ H _ rs ?_⟩
  refine seqE q fun d ss1 ω1 H1 x _ rs1 fr1 rp1 q1 => ?_
  cases rp1
  cases d with
  | false => exact g2 ω1 ss1 σ H1 _ rs1 q1
  | true => exact q1 ω1 H1 _ rs1 (.refl _ _) rfl
theorem t_w {m : SS → EO Bool} (h : VW X K mg W e m) : VT X K mg W e m := let ⟨t, h1, h2⟩ := h.ex; ⟨t, fun i => (h1 i).pt, h2⟩
def vAnd (m n : SS → EO Dt) : SS → EO Dt := fun ss => (m ss).bind fun d ss => match d with
  | .bool true => n ss
  | .bool false => .ok (.bool false) ss
  | _ => .no
def vOr (m n : SS → EO Dt) : SS → EO Dt := fun ss => (m ss).bind fun d ss => match d with
  | .bool false => n ss
  | .bool true => .ok (.bool true) ss
  | _ => .no
def vNot (m : SS → EO Dt) : SS → EO Dt := fun ss => (m ss).bind fun d ss => match d with
  | .bool z => .ok (.bool (!z)) ss
  | _ => .no
theorem v_one {op : BoolOp} {m : SS → EO Dt} (h : VE X K mg W a m) : VE X K mg W (.BoolOp op [a] pos) m := let ⟨t, h1, h2⟩ := h.ex; ⟨t, fun i => pe_one (h1 i), h2⟩
theorem v_and {m n : SS → EO Dt} (h : VE X K mg W a m) (g : VE X K mg W (.BoolOp .And (b :: es) pos) n) : VE X K mg W (.BoolOp .And (a :: b :: es) pos) (vAnd m n) := by
  obtain ⟨t, h1, h2⟩ := h.ex
  obtain ⟨u, g1, g2⟩ := g.ex
  refine ⟨_, fun i => pe_and (h1 i) (g1 i), fun ω ss σ H Q rs q => h2 ω ss σ H _ rs ?_⟩
  refine seqE q fun d ss1 ω1 H1 x _ rs1 fr1 rp1 q1 => ?_
  cases rp1 with
  | bl z =>
    refine ⟨z, rfl, ?_⟩
    cases z with
    | true => exact g2 ω1 ss1 σ H1 _ rs1 q1
    | false => exact q1 ω1 H1 _ rs1 (.refl _ _) (.bl _)
  | _ => exact q1.elim
theorem v_or {m n : SS → EO Dt} (h : VE X K mg W a m) (g : VE X K mg W (.BoolOp .Or (b :: es) pos) n) : VE X K mg W (.BoolOp .Or (a :: b :: es) pos) (vOr m n) := by
  obtain ⟨t, h1, h2⟩ := h.ex
  obtain ⟨u, g1, g2⟩ := g.ex
  refine ⟨_, fun i => pe_or (h1 i) (g1 i), fun ω ss σ H Q rs q => h2 ω ss σ H _ rs ?_⟩
  refine seqE q fun d ss1 ω1 H1 x _ rs1 fr1 rp1 q1 => ?_
  cases rp1 with
  | bl z =>
    refine ⟨z, rfl, ?_⟩
    cases z with
    | false => exact g2 ω1 ss1 σ H1 _ rs1 q1
    | true => exact q1 ω1 H1 _ rs1 (.refl _ _) (.bl _)
  | _ => exact q1.elim
theorem v_not {m : SS → EO Dt} (h : VE X K mg W a m) : VE X K mg W (.UnaryOp .Not a pos) (vNot m) := by
  obtain ⟨t, h1, h2⟩ := h.ex
  refine ⟨_, fun i => pe_not (h1 i), fun ω ss σ H Q rs q => h2 ω ss σ H _ rs ?_⟩
  refine seqE q fun d ss1 ω1 H1 x _ rs1 fr1 rp1 q1 => ?_
  cases rp1 with
  | bl z => exact ⟨z, rfl, q1 ω1 H1 _ rs1 (.refl _ _) (.bl _)⟩
  | _ => exact q1.elim
def mIf {α : Type} (c : SS → EO Bool) (m n : SS → EO α) : SS → EO α := fun ss => (c ss).bind fun d ss => if d = true then m ss else n ss
theorem v_if {t : SS → EO Bool} {m n : SS → EO Dt} (hc : VT X K mg W c t) (h : VE X K mg W a m) (g : VE X K mg W b n) : VE X K mg W (.IfExp c a b pos) (mIf t m n) := by
  obtain ⟨tc, c1, c2⟩ := hc.ex
  obtain ⟨t, h1, h2⟩ := h.ex
  obtain ⟨u, g1, g2⟩ := g.ex
  refine ⟨_, fun i => pe_ifExp (c1 i) (h1 i) (g1 i), fun ω ss σ H Q rs q => c2 ω ss σ H _ rs ?_⟩
  refine seqE q fun d ss1 ω1 H1 x _ rs1 fr1 rp1 q1 => ?_
  cases rp1
  cases d with
  | true => exact h2 ω1 ss1 σ H1 _ rs1 q1
  | false => exact g2 ω1 ss1 σ H1 _ rs1 q1

/-- the result is data, or a new object of data -/
structure BinS (X : ι → Cx) (K : PySem.W.Frag) (op : Operator) (f : Dt → Dt → Option Dt) : Prop where
  ex : ∃ r : R2, (∀ i, OpR (X i) (binaryOp op) r) ∧ ∀ ω ss σ H x y d e z (Q : VK), RS K ω ss σ H → Bor K ω H x d → Bor K ω H y e → f d e = some z → (∀ H' v, Same H H' → Rp K (hid ω H') v z → Q v H') → r x y H Q
theorem BinS.or {op : Operator} {f g : Dt → Dt → Option Dt} (h1 : BinS X K op f) (h2 : BinS X K op g) : BinS X K op (alt f g) := by
  obtain ⟨r, a1, a2⟩ := h1.ex
  obtain ⟨u, b1, b2⟩ := h2.ex
  refine ⟨_, fun i => (a1 i).or (b1 i), fun ω ss σ H x y d e z Q rs bx by' hf q => ?_⟩
  unfold alt at hf
  cases hz : f d e with
  | some z' =>
    rw [hz] at hf
    cases hf
    exact .inl (a2 ω ss σ H x y d e _ Q rs bx by' hz q)
  | none =>
    rw [hz] at hf
    exact .inr (b2 ω ss σ H x y d e z Q rs bx by' hf q)
def gInt (g : Int → Int → Option Int) : Dt → Dt → Option Dt := fun d e => match d, e with
  | .int i, .int j => (g i j).map .int
  | _, _ => none
theorem s_int {op : Operator} {C : Int → Int → Prop} {f : Int → Int → Int} {g : Int → Int → Option Int} (h : ∀ i, OpR (X i) (binaryOp op) (rI C fun i j => .int (f i j))) (hg : ∀ i j z, g i j = some z → C i j ∧ z = f i j) : BinS X K op (gInt g) := by
  refine ⟨_, h, fun ω ss σ H x y d e z Q rs bx by' hf q => ?_⟩
  unfold gInt at hf
  split at hf
  · obtain ⟨z', e1, e2⟩ := Option.map_eq_some_iff.mp hf
    obtain ⟨c, e3⟩ := hg _ _ _ e1
    have h1 := bx.rp
    have h2 := by'.rp
    cases h1
    cases h2
    subst e2 e3
    exact ⟨_, _, rfl, rfl, c, q H _ (Same.refl _) (.int _)⟩
  · cases hf
theorem s_int0 {op : Operator} {f : Int → Int → Int} (h : ∀ i, OpR (X i) (binaryOp op) (rI0 fun i j => .int (f i j))) : BinS X K op (gInt fun i j => some (f i j)) := by
  refine ⟨_, h, fun ω ss σ H x y d e z Q rs bx by' hf q => ?_⟩
  unfold gInt at hf
  split at hf
  · cases hf
    have h1 := bx.rp
    have h2 := by'.rp
    cases h1
    cases h2
    exact ⟨_, _, rfl, rfl, q H _ (Same.refl _) (.int _)⟩
  · cases hf
def gMul : Dt → Dt → Option Dt := gInt fun i j => if (-(2 ^ 64) < i ∧ i < 2 ^ 64) ∨ (-(2 ^ 64) < j ∧ j < 2 ^ 64) then some (i * j) else none
def gMod : Dt → Dt → Option Dt := gInt fun i j => if 0 < j then some (i % j) else none
def gDiv : Dt → Dt → Option Dt := gInt fun i j => if 0 < j ∧ j < 1073741824 then some (i / j) else none
def gPow : Dt → Dt → Option Dt := gInt fun i j => if 0 ≤ j ∧ j ≤ 1000000 ∧ i.natAbs < 2 ^ 64 then some (i ^ j.toNat) else none
def gSub : Dt → Dt → Option Dt := gInt fun i j => some (i - j)
theorem s_mul : BinS X K .Mult gMul := s_int (fun _ => op_mul) fun i j z h => by
  split at h
  · cases h; exact ⟨by assumption, rfl⟩
  · cases h
theorem s_mod : BinS X K .Mod gMod := s_int (fun _ => op_mod) fun i j z h => by
  split at h
  · cases h; exact ⟨by assumption, rfl⟩
  · cases h
theorem s_div : BinS X K .FloorDiv gDiv := s_int (fun _ => op_fdiv) fun i j z h => by
  split at h
  · cases h; exact ⟨by assumption, rfl⟩
  · cases h
theorem s_pow : BinS X K .Pow gPow := s_int (fun _ => op_pow) fun i j z h => by
  split at h
  · cases h; exact ⟨by assumption, rfl⟩
  · cases h
theorem s_sub : BinS X K .Sub gSub := s_int0 fun _ => op_sub
def gAddS : Dt → Dt → Option Dt := fun d e => match d, e with
  | .str i, .str j => if i.length + j.length ≤ sizeLine then some (.str (i ++ j)) else none
  | _, _ => none
def gAddT : Dt → Dt → Option Dt := fun d e => match d, e with
  | .tuple xs, .tuple ys => if xs.length + ys.length ≤ sizeLine then some (.tuple (xs ++ ys)) else none
  | _, _ => none
def gAddL : Dt → Dt → Option Dt := fun d e => match d, e with
  | .list xs, .list ys => if xs.length + ys.length ≤ sizeLine then some (.list (xs ++ ys)) else none
  | _, _ => none
theorem s_addS : BinS X K .Add gAddS := by
  refine ⟨_, fun _ => op_add_str, fun ω ss σ H x y d e z Q rs bx by' hf q => ?_⟩
  unfold gAddS at hf
  split at hf
  · split at hf
    · cases hf
      have h1 := bx.rp
      have h2 := by'.rp
      cases h1
      cases h2
      exact ⟨_, _, rfl, rfl, by assumption, q H _ (Same.refl _) (.str _)⟩
    · cases hf
  · cases hf
theorem bor_tup {ω : Om} {H : Hp} {x : V} {ds : List Dt} (h : Bor K ω H x (.tuple ds)) : ∃ a xs, x = .ref a ∧ SqT K (hid ω H) a xs ∧ RpA K (hid ω H) xs ds := by
  rcases h with h | ⟨a, _, h⟩
  · cases h with
    | tup h1 h2 => exact ⟨_, _, rfl, h1, h2⟩
  · rcases h with ⟨ds, xs, e, _⟩ | ⟨ds, xs, e, _⟩ | ⟨ds, xs, e, _⟩ | ⟨c, dx, fs, ds, e, _⟩ <;> cases e
theorem bor_lst {ω : Om} {H : Hp} {x : V} {ds : List Dt} (h : Bor K ω H x (.list ds)) : ∃ a xs, x = .ref a ∧ H a = some (.lst xs) ∧ RpA K (hid ω H) xs ds := by
  rcases h with h | ⟨a, rfl, h⟩
  · cases h with
    | lst h1 h2 => exact ⟨_, _, rfl, hid_le _ _ h1, h2⟩
  · rcases h with ⟨ds, xs, e, h2, h3⟩ | ⟨ds, xs, e, _⟩ | ⟨ds, xs, e, _⟩ | ⟨c, dx, fs, ds, e, _⟩
    · cases e
      exact ⟨_, _, rfl, h2, h3⟩
    all_goals cases e
theorem new_tup {ω : Om} {ss : SS} {σ : St} {H : Hp} {xs : List V} {ds : List Dt} {p : Addr} (rs : RS K ω ss σ H) (hp : H p = none) (h : RpA K (hid ω H) xs ds) : Same H (upd H p (.tup xs)) ∧ Rp K (hid ω (upd H p (.tup xs))) (.ref p) (.tuple ds) := by
  have hs : Same H (upd H p (.tup xs)) := same_upd hp
  exact ⟨hs, .tup (.of (by rw [hid_of (rs.free hp), upd_same])) (RpA.mono (hid_same hs) _ _ h)⟩
theorem new_lst {ω : Om} {ss : SS} {σ : St} {H : Hp} {xs : List V} {ds : List Dt} {p : Addr} (rs : RS K ω ss σ H) (hp : H p = none) (h : RpA K (hid ω H) xs ds) : Same H (upd H p (.lst xs)) ∧ Rp K (hid ω (upd H p (.lst xs))) (.ref p) (.list ds) := by
  have hs : Same H (upd H p (.lst xs)) := same_upd hp
  exact ⟨hs, .lst (by rw [hid_of (rs.free hp), upd_same]) (RpA.mono (hid_same hs) _ _ h)⟩
theorem s_addT (C : VC X k P w K mg base W) : BinS X K .Add gAddT := by
  refine ⟨rCatA K, fun i => by rw [← C.eK i]; exact op_catA, fun ω ss σ H x y d e z Q rs bx by' hf q => ?_⟩
  unfold gAddT at hf
  split at hf
  · split at hf
    · rename_i ds es hz
      cases hf
      obtain ⟨a, xs, rfl, h1, h2⟩ := bor_tup bx
      obtain ⟨b, ys, rfl, g1, g2⟩ := bor_tup by'
      refine ⟨a, b, xs, ys, rfl, rfl, sqT_mono hid_le h1, sqT_mono hid_le g1, by rw [h2.length, g2.length]; exact hz, fun e0 => ?_, fun _ e0 => ?_, fun _ _ p hp => ?_⟩
      · subst e0
        cases h2
        exact q H _ (Same.refl _) (.tup g1 g2)
      · subst e0
        cases g2
        rw [List.append_nil] at q
        exact q H _ (Same.refl _) (.tup h1 h2)
      · obtain ⟨n1, n2⟩ := new_tup rs hp (h2.app g2)
        exact q _ _ n1 n2
    · cases hf
  · cases hf
theorem s_addL : BinS X K .Add gAddL := by
  refine ⟨_, fun _ => op_cat, fun ω ss σ H x y d e z Q rs bx by' hf q => ?_⟩
  unfold gAddL at hf
  split at hf
  · split at hf
    · rename_i ds es hz
      cases hf
      obtain ⟨a, xs, rfl, h1, h2⟩ := bor_lst bx
      obtain ⟨b, ys, rfl, g1, g2⟩ := bor_lst by'
      refine ⟨a, b, xs, ys, rfl, rfl, h1, g1, by rw [h2.length, g2.length]; exact hz, fun p hp => ?_⟩
      obtain ⟨n1, n2⟩ := new_lst rs hp (h2.app g2)
      exact q _ _ n1 n2
    · cases hf
  · cases hf
def gAdd : Dt → Dt → Option Dt := alt (gInt fun i j => some (i + j)) (alt gAddS (alt gAddT gAddL))
theorem s_add (C : VC X k P w K mg base W) : BinS X K .Add gAdd := (s_int0 fun _ => op_add).or (s_addS.or ((s_addT C).or s_addL))
def mBin (f : Dt → Dt → Option Dt) (m n : SS → EO Opd) : SS → EO Dt := fun ss => (m ss).bind fun o ss => (n ss).bind fun p ss => .lift (two f o p ss) ss
theorem v_bin {op : Operator} {f : Dt → Dt → Option Dt} {m n : SS → EO Opd} (hm : VB X K mg W a m) (hn : VB X K mg W b n) (hc : BinS X K op f) : VE X K mg W (.BinOp a op b pos) (mBin f m n) := by
  obtain ⟨r, a1, a2⟩ := hc.ex
  obtain ⟨t, h1, h2⟩ := hm.ex
  obtain ⟨u, g1, g2⟩ := hn.ex
  refine ⟨_, fun i => pe_op (a1 i) (h1 i) (g1 i), fun ω ss σ H Q rs q => h2 ω ss σ H _ rs ?_⟩
  refine seqE q fun o ss1 ω1 H1 x _ rs1 fr1 rp1 q1 => g2 ω1 ss1 σ H1 _ rs1 ?_
  refine seqE q1 fun p ss2 ω2 H2 y _ rs2 fr2 rp2 q2 => ?_
  obtain ⟨z, hz, q2⟩ := lift_get q2
  obtain ⟨d, e, e1, e2, e3⟩ := two_some hz
  exact a2 ω2 ss2 σ H2 x y d e z _ rs2 (Opd.bor rs2 (rp1.go fr2) e1) (Opd.bor rs2 rp2 e2) e3 fun H' v hs hv => q2 ω2 H' v (rs2.grow hs) (.grow hs rs2.own) hv
/-- a new list of one's own -/
theorem o_addL {m n : SS → EO Opd} (hm : VB X K mg W a m) (hn : VB X K mg W b n) : VO X K mg W (.BinOp a .Add b pos) (mBin gAddL m n) := by
  obtain ⟨t, h1, h2⟩ := hm.ex
  obtain ⟨u, g1, g2⟩ := hn.ex
  refine ⟨_, fun i => pe_op op_cat (h1 i) (g1 i), fun k ω ss σ H Q hk rs q => h2 ω ss σ H _ rs ?_⟩
  refine seqE (R2 := NewR K H k) q fun o ss1 ω1 H1 x _ rs1 fr1 rp1 q1 => g2 ω1 ss1 σ H1 _ rs1 ?_
  refine seqE (R2 := NewR K H k) q1 fun p ss2 ω2 H2 y _ rs2 fr2 rp2 q2 => ?_
  obtain ⟨z, hz, q2⟩ := lift_get q2
  obtain ⟨d, e, e1, e2, hf⟩ := two_some hz
  have bx := Opd.bor rs2 (rp1.go fr2) e1
  have by' := Opd.bor rs2 rp2 e2
  unfold gAddL at hf
  split at hf
  · split at hf
    · rename_i ds es hzz
      cases hf
      obtain ⟨a, xs, rfl, h1, h2⟩ := bor_lst bx
      obtain ⟨b, ys, rfl, g1, g2⟩ := bor_lst by'
      refine ⟨a, b, xs, ys, rfl, rfl, h1, g1, by rw [h2.length, g2.length]; exact hzz, fun p hp => ?_⟩
      obtain ⟨ω3, w1, rs3, fr3, hs3⟩ := rs2.new (o := .lst (xs ++ ys)) hk hp
      exact q2 ω3 _ _ rs3 fr3 ⟨p, rfl, (fr1.trans fr2).tr p hp, w1, .inl ⟨_, _, rfl, upd_same, RpA.mono hs3 _ _ (h2.app g2)⟩⟩
    · cases hf
  · cases hf
def mNeg (m : SS → EO Dt) : SS → EO Dt := fun ss => (m ss).bind fun d ss => match d with
  | .int i => .ok (.int (-i)) ss
  | _ => .no
theorem v_neg {m : SS → EO Dt} (h : VE X K mg W a m) : VE X K mg W (.UnaryOp .USub a pos) (mNeg m) := by
  obtain ⟨t, h1, h2⟩ := h.ex
  refine ⟨_, fun i => pe_un un_neg (h1 i), fun ω ss σ H Q rs q => h2 ω ss σ H _ rs ?_⟩
  refine seqE q fun d ss1 ω1 H1 x _ rs1 fr1 rp1 q1 => ?_
  cases rp1 with
  | int z => exact ⟨z, rfl, q1 ω1 H1 _ rs1 (.refl _ _) (.int _)⟩
  | _ => exact q1.elim
end
end VL

namespace VL
open PySem PySem.Spec L2
open PyProof.Rows hiding St
variable [WW]

/-- a value of either kind -/
inductive NV where
  | fz (d : Dt)
  | ow (d : Dt)
def NV.sv : NV → SV
  | .fz d => .v d
  | .ow d => .o d
def NvR (K : PySem.W.Frag) (H0 : Hp) (k : Nat) : Om → Hp → V → NV → Prop := fun ω H x n => match n with
  | .fz d => Rp K (hid ω H) x d
  | .ow d => NewR K H0 k ω H x d
structure VN {ι : Type} (X : ι → Cx) (K : PySem.W.Frag) (mg : Str → Option Value) (W : WX) (e : Expr) (m : SS → EO NV) : Prop where
  ex : ∃ t : TE, (∀ i, PE (X i) e t) ∧ ∀ k ω ss σ H Q, 1000 ≤ k → RS K ω ss σ H → EQg (NvR K H k) K mg W ω σ H (m ss) Q → t σ H Q

section
variable {ι : Type} {X : ι → Cx} {k : Nat} {P : Program} {w : World} {K : PySem.W.Frag} {mg : Str → Option Value} {base : Heap} {W : WX} {e a b c : Expr} {es : List Expr} {pos : Pos}

def mFz (m : SS → EO Dt) : SS → EO NV := fun ss => (m ss).bind fun d ss => .ok (.fz d) ss
def mOw (m : SS → EO Dt) : SS → EO NV := fun ss => (m ss).bind fun d ss => .ok (.ow d) ss
theorem n_v {m : SS → EO Dt} (h : VE X K mg W e m) : VN X K mg W e (mFz m) := by
  obtain ⟨t, h1, h2⟩ := h.ex
  refine ⟨t, h1, fun k ω ss σ H Q hk rs q => h2 ω ss σ H Q rs ?_⟩
  exact seqE q fun d ss' ω' H' x _ rs' fr rp q' => q' ω' H' x rs' (.refl _ _) rp
theorem n_o {m : SS → EO Dt} (h : VO X K mg W e m) : VN X K mg W e (mOw m) := by
  obtain ⟨t, h1, h2⟩ := h.ex
  refine ⟨t, h1, fun k ω ss σ H Q hk rs q => h2 k ω ss σ H Q hk rs ?_⟩
  exact seqE q fun d ss' ω' H' x _ rs' fr rp q' => q' ω' H' x rs' (.refl _ _) rp
theorem NvR.go {H0 : Hp} {k : Nat} {ω ω' : Om} {H H' : Hp} {x : V} {n : NV} (hk : 1000 ≤ k) (h : NvR K H0 k ω H x n) (f : Frm ω H ω' H') : NvR K H0 k ω' H' x n := by
  cases n with
  | fz d => exact Rp.mono f.fz _ _ h
  | ow d =>
    obtain ⟨a, h1, h2, h3, h4⟩ := h
    obtain ⟨g1, g2⟩ := f.tp a k hk h3
    exact ⟨a, h1, h2, g1, by rw [g2]; exact h4.mono f.fz⟩
/-- a value is stored in the i-th slot -/
theorem store_nv {H0 : Hp} {k i : Nat} {ω0 ω : Om} {ss : SS} {σ : St} {H : Hp} {x : V} {n : NV} (rs : RS K ω ss σ H) (fr : Frm ω0 H0 ω H) (z0 : ∀ a, H0 a = none → ω0 a = none) (hk : 1000 ≤ k) (hi : i < σ.length) (h : NvR K H0 k ω H x n) :
    ∃ ω', RS K ω' (ss.set i (some n.sv)) (σ.set i (some x)) H ∧ Frm ω0 H0 ω' H ∧ Same (hid ω H) (hid ω' H) ∧ ∀ b k', 1000 ≤ k' → k' ≠ k → ω b = some k' → ω' b = some k' := by
  have hi2 := rs.few
  cases n with
  | fz d =>
    refine ⟨drop ω i, rs.put hi hid_drop (fun a j ha => ?_) (fun j a hj _ ha => drop_ne ha hj) (Rp.mono hid_drop _ _ h), fr.trans (.drop (by omega)), hid_drop, fun b k' h1 _ h3 => drop_ne h3 (by omega)⟩
    unfold drop at ha
    split at ha
    · cases ha
    · exact rs.own a j ha
  | ow d =>
    obtain ⟨a, rfl, h2, h3, h4⟩ := h
    obtain ⟨ω', ew⟩ : ∃ ω' : Om, ω' = fun b => if b = a then some i else drop ω i b := ⟨_, rfl⟩
    have ea : ω' a = some i := by rw [ew]; exact if_pos rfl
    have en : ∀ b, b ≠ a → ω' b = drop ω i b := fun b hb => by rw [ew]; exact if_neg hb
    have hs : Same (hid ω H) (hid ω' H) := fun b o hb => by
      obtain ⟨q1, q2⟩ := hid_some hb
      have hba : b ≠ a := fun e => by rw [e, h3] at q1; cases q1
      rw [hid_of ((en b hba).trans (drop_none q1))]
      exact q2
    have kp : ∀ b k', k' ≠ k → k' ≠ i → ω b = some k' → ω' b = some k' := fun b k' n1 n2 hb => by
      have hba : b ≠ a := fun e => by rw [e, h3] at hb; exact n1 (Option.some.inj hb).symm
      exact (en b hba).trans (drop_ne hb n2)
    refine ⟨ω', rs.put hi hs (fun b j hb => ?_) (fun j b hj hjl hb => ?_) ⟨a, rfl, ea, h4.mono hs⟩, ⟨fr.fz.trans hs, fun b j hj hb => ?_, fr.tr⟩, hs, fun b k' h1 n1 hb => kp b k' n1 (by omega) hb⟩
    · by_cases hba : b = a
      · rw [hba]; exact rs.own a k h3
      · rw [en b hba] at hb
        unfold drop at hb
        split at hb
        · cases hb
        · exact rs.own b j hb
    · exact kp b j (by omega) hj hb
    · obtain ⟨g1, g2⟩ := fr.tp b j hj hb
      refine ⟨?_, g2⟩
      have hba : b ≠ a := fun e => by rw [e, z0 a h2] at hb; cases hb
      exact (en b hba).trans (drop_ne g1 (by omega))

def mSeq (m n : SS → SO) : SS → SO := fun ss => match m ss with
  | .nx ss' => n ss'
  | o => o
theorem ss_nil : VSs X K mg W [] .nx := ⟨_, fun _ => pss_nil, fun ω ss σ H D rs q => q ω σ H rs (.refl _ _)⟩
theorem ss_one {st : Stmt} {m : SS → SO} (h : VS X K mg W st m) : VSs X K mg W [st] m := let ⟨t, h1, h2⟩ := h.ex; ⟨t, fun i => pss_one (h1 i), h2⟩
theorem ss_cons {st : Stmt} {r : List Stmt} {m n : SS → SO} (h : VS X K mg W st m) (g : VSs X K mg W r n) : VSs X K mg W (st :: r) (mSeq m n) := by
  obtain ⟨t, h1, h2⟩ := h.ex
  obtain ⟨u, g1, g2⟩ := g.ex
  refine ⟨tSeq t u, fun i => pss_cons (h1 i) (g1 i), fun ω ss σ H D rs q => h2 ω ss σ H _ rs ?_⟩
  unfold mSeq at q
  cases hm : m ss with
  | nx ss' =>
    rw [hm] at q
    exact fun ω' σ' H' rs' fr => g2 ω' ss' σ' H' D rs' (SQ.shift q fr)
  | rt d ss' => rw [hm] at q; exact q
  | bk ss' => rw [hm] at q; exact q
  | ct ss' => rw [hm] at q; exact q
  | exc c fs ss' => rw [hm] at q; exact q
  | no => rw [hm] at q; exact q
def mRet (m : SS → EO Dt) : SS → SO := fun ss => (m ss).st fun d ss => .rt d ss
theorem s_ret {m : SS → EO Dt} (h : VE X K mg W e m) : VS X K mg W (.Return (some e) pos) (mRet m) := by
  obtain ⟨t, h1, h2⟩ := h.ex
  refine ⟨_, fun i => ps_ret (h1 i), fun ω ss σ H D rs q => h2 ω ss σ H _ rs ?_⟩
  exact seqS q fun d ss1 ω1 H1 x _ rs1 fr1 rp1 q1 => q1 ω1 σ H1 x rs1 (.refl _ _) rp1
theorem s_retN : VS X K mg W (.Return none pos) (fun ss => .rt .none ss) := ⟨_, fun _ => ps_retN, fun ω ss σ H D rs q => q ω σ H _ rs (.refl _ _) .non⟩
theorem s_pass : VS X K mg W (.Pass pos) .nx := ⟨_, fun _ => ps_pass, fun ω ss σ H D rs q => q ω σ H rs (.refl _ _)⟩
theorem s_break : VS X K mg W (.Break pos) .bk := ⟨_, fun _ => ps_break, fun ω ss σ H D rs q => q ω σ H rs (.refl _ _)⟩
theorem s_cont : VS X K mg W (.Continue pos) .ct := ⟨_, fun _ => ps_continue, fun ω ss σ H D rs q => q ω σ H rs (.refl _ _)⟩
def mIfS (c : SS → EO Bool) (m n : SS → SO) : SS → SO := fun ss => (c ss).st fun d ss => if d = true then m ss else n ss
theorem s_if {as bs : List Stmt} {t : SS → EO Bool} {m n : SS → SO} (hc : VT X K mg W c t) (h : VSs X K mg W as m) (g : VSs X K mg W bs n) : VS X K mg W (.If c as bs pos) (mIfS t m n) := by
  obtain ⟨tc, c1, c2⟩ := hc.ex
  obtain ⟨t, h1, h2⟩ := h.ex
  obtain ⟨u, g1, g2⟩ := g.ex
  refine ⟨_, fun i => ps_if (c1 i) (h1 i) (g1 i), fun ω ss σ H D rs q => c2 ω ss σ H _ rs ?_⟩
  refine seqS q fun d ss1 ω1 H1 x _ rs1 fr1 rp1 q1 => ?_
  cases rp1
  cases d with
  | true => exact h2 ω1 ss1 σ H1 _ rs1 q1
  | false => exact g2 ω1 ss1 σ H1 _ rs1 q1
def mDrop {α : Type} (m : SS → EO α) : SS → SO := fun ss => (m ss).st fun _ ss => .nx ss
theorem s_expr {m : SS → EO Dt} (h : VE X K mg W e m) (hs : ∀ i, swapsWith e none pos.line (X i).env = pure false := by intro _; rfl) : VS X K mg W (.Expr e pos) (mDrop m) := by
  obtain ⟨t, h1, h2⟩ := h.ex
  refine ⟨_, fun i => ps_expr (h1 i) (hs i), fun ω ss σ H D rs q => h2 ω ss σ H _ rs ?_⟩
  exact seqS q fun d ss1 ω1 H1 x _ rs1 fr1 rp1 q1 => q1 ω1 σ H1 rs1 (.refl _ _)

def mSet (i : Nat) (m : SS → EO NV) : SS → SO := fun ss => (m ss).st fun n ss => if i < ss.length then .nx (ss.set i (some n.sv)) else .no
theorem s_set (C : VC X k P w K mg base W) (i : Nat) {x : Str} {p' : Pos} {m : SS → EO NV} (h : VN X K mg W e m) (hi : ∀ j, (X j).N[i]? = some x) (hx : ∀ j, Loc (X j).env.scope x)
    (hs : ∀ j, swapsWith e (some (.Name x p')) pos.line (X j).env = pure false := by intro _; rfl) (hf : ∀ j, (X j).fn x = true ∨ (X j).env.scope.names.lookup x = some .local := by intro _; first | exact .inl rfl | exact .inr rfl) :
    VS X K mg W (.Assign [.Name x p'] e pos) (mSet i m) := by
  obtain ⟨t, h1, h2⟩ := h.ex
  refine ⟨_, fun j => ps_set (C.nd j) (hi j) (hx j) (h1 j) (hs j) (hf j), fun ω ss σ H D rs q => h2 1000 ω ss σ H _ (Nat.le_refl _) rs ?_⟩
  refine seqS0 q fun n ss1 ω1 H1 y _ rs1 fr1 rp1 q1 => ?_
  split at q1
  · rename_i hlt
    obtain ⟨ω2, rs2, fr2, hs2, _⟩ := store_nv rs1 fr1 (fun a ha => rs.free ha) (Nat.le_refl 1000) (by rw [← rs1.len]; exact hlt) rp1
    exact q1 ω2 _ H1 rs2 fr2
  · exact q1.elim
/-- a, b = x, y -/
def mPar (i j : Nat) (m n : SS → EO NV) : SS → SO := fun ss => (m ss).st fun d ss => (n ss).st fun e ss => if i < ss.length ∧ j < ss.length then .nx ((ss.set i (some d.sv)).set j (some e.sv)) else .no
theorem s_par (C : VC X k P w K mg base W) (i j : Nat) {x y : Str} {px py pt : Pos} {kt k2 : Nat} {pt2 : Pos} {m n : SS → EO NV} (h : VN X K mg W a m) (g : VN X K mg W b n) (hi : ∀ l, (X l).N[i]? = some x) (hj : ∀ l, (X l).N[j]? = some y) (hij : i ≠ j)
    (hx : ∀ l, (X l).env.scope.names.lookup x = some .local) (hy : ∀ l, (X l).env.scope.names.lookup y = some .local)
    (hw : ∀ l, swappedStores [.Tuple [.Name x px, .Name y py] kt pt] (.Tuple [a, b] k2 pt2) (X l).env = pure (some [x, y]) := by intro _; rfl)
    (hs : ∀ l, swapsWithSole [.Tuple [.Name x px, .Name y py] kt pt] (.Tuple [a, b] k2 pt2) pos.line (X l).env = pure false := by intro _; rfl)
    (st1 : ∀ l, starEach [a, b] (X l).env = (false, eval a (X l).env) :: starEach [b] (X l).env := by intro _; rfl) (st2 : ∀ l, starEach [b] (X l).env = (false, eval b (X l).env) :: starEach [] (X l).env := by intro _; rfl) :
    VS X K mg W (.Assign [.Tuple [.Name x px, .Name y py] kt pt] (.Tuple [a, b] k2 pt2) pos) (mPar i j m n) := by
  obtain ⟨t, h1, h2⟩ := h.ex
  obtain ⟨u, g1, g2⟩ := g.ex
  refine ⟨_, fun l => ps_par (C.ca l) (C.nd l) (hi l) (hj l) hij (hx l) (hy l) (pa_cons (h1 l) (pa_cons (g1 l) pa_nil (st2 l)) (st1 l)) (hw l) (hs l), fun ω ss σ H D rs q => ?_⟩
  refine h2 1000 ω ss σ H _ (Nat.le_refl _) rs (seqS0 q fun d ss1 ω1 H1 x1 e1 rs1 fr1 rp1 q1 => ?_)
  refine g2 1001 ω1 ss1 σ H1 _ (by decide) rs1 ?_
  cases hn : n ss1 with
  | no => rw [hn] at q1; exact q1
  | exc c fs ss2 => rw [hn] at q1; exact fun ω' H' cls dd rs' f xr => q1 ω' σ H' cls dd rs' (fr1.trans f) xr
  | ok e ss2 =>
    rw [hn] at q1
    intro ω2 H2 y1 rs2 fr2 rp2
    have q1 : SQ K mg W D ω H (if i < ss2.length ∧ j < ss2.length then .nx ((ss2.set i (some d.sv)).set j (some e.sv)) else .no) := q1
    split at q1
    · rename_i hlt
      have z0 : ∀ a, H a = none → ω a = none := fun a ha => rs.free ha
      obtain ⟨ω3, rs3, fr3, hs3, kp3⟩ := store_nv rs2 (fr1.trans fr2) z0 (Nat.le_refl 1000) (by rw [← rs2.len]; exact hlt.1) (rp1.go (Nat.le_refl _) fr2)
      have rp3 : NvR K H 1001 ω3 H2 y1 e := by
        cases e with
        | fz d' => exact Rp.mono hs3 _ _ rp2
        | ow d' =>
          obtain ⟨p, w1, w2, w3, w4⟩ := rp2
          exact ⟨p, w1, fr1.tr p w2, kp3 p 1001 (by decide) (by decide) w3, w4.mono hs3⟩
      obtain ⟨ω4, rs4, fr4, _, _⟩ := store_nv (i := j) rs3 fr3 z0 (show 1000 ≤ 1001 by decide) (by rw [List.length_set, ← rs2.len]; exact hlt.2) rp3
      exact ⟨x1, y1, rfl, q1 ω4 _ H2 rs4 fr4⟩
    · exact q1.elim
theorem RS.mut {ω : Om} {ss : SS} {σ : St} {H : Hp} {i : Nat} {a : Addr} {o : HO} {s : SV} {x : V} (rs : RS K ω ss σ H) (ha : ω a = some i) (hx : σ[i]? = some (some x)) (h : SlR K ω (upd H a o) i s x) :
    RS K ω (ss.set i (some s)) σ (upd H a o) ∧ Frm ω H ω (upd H a o) ∧ hid ω (upd H a o) = hid ω H := by
  have hi : i < σ.length := (List.getElem?_eq_some_iff.mp hx).1
  have hf := rs.few
  have e : hid ω (upd H a o) = hid ω H := by
    funext b
    by_cases hb : b = a
    · subst hb
      unfold hid
      rw [ha]
    · unfold hid
      rw [upd_ne hb]
  have ne : ∀ b j, j ≠ i → ω b = some j → b ≠ a := fun b j hj hb z => by rw [z, ha] at hb; exact hj (Option.some.inj hb).symm
  refine ⟨⟨by rw [List.length_set]; exact rs.len, rs.few, fun b j hb => ?_, fun j s' hj => ?_⟩, ⟨by rw [e]; exact Same.refl _, fun b j hj hb => ⟨hb, upd_ne (ne b j (by omega) hb)⟩, fun b hb => ?_⟩, e⟩
  · by_cases hba : b = a
    · rw [hba, upd_same]; rfl
    · rw [upd_ne hba]; exact rs.own b j hb
  · by_cases hji : j = i
    · subst hji
      rw [List.getElem?_set_self (by rw [rs.len]; exact hi)] at hj
      cases hj
      exact ⟨x, hx, h⟩
    · rw [List.getElem?_set_ne (Ne.symm hji)] at hj
      obtain ⟨y, q1, q2⟩ := rs.sl j s' hj
      exact ⟨y, q1, q2.keep (by rw [e]; exact Same.refl _) fun b hb => ⟨hb, upd_ne (ne b j hji hb)⟩⟩
  · by_cases hba : b = a
    · rw [hba, upd_same] at hb; cases hb
    · rw [upd_ne hba] at hb; exact hb
def ownL (ss : SS) (i : Nat) : Option (List Dt) := match ss[i]? with
  | some (some (.o (.list ds))) => some ds
  | _ => none
theorem ownL_at {ss : SS} {i : Nat} {ds : List Dt} (h : ownL ss i = some ds) : ss[i]? = some (some (.o (.list ds))) := by
  unfold ownL at h
  split at h
  · cases h; assumption
  · cases h
theorem RS.ownL {ω : Om} {ss : SS} {σ : St} {H : Hp} {i : Nat} {ds : List Dt} (rs : RS K ω ss σ H) (h : ownL ss i = some ds) : ∃ a xs, σ[i]? = some (some (.ref a)) ∧ ω a = some i ∧ H a = some (.lst xs) ∧ RpA K (hid ω H) xs ds := by
  obtain ⟨x, q1, a, rfl, q2, q3⟩ := rs.sl i _ (ownL_at h)
  rcases q3 with ⟨ds', xs, e, h2, h3⟩ | ⟨ds', xs, e, _⟩ | ⟨ds', xs, e, _⟩ | ⟨c, dx, fs, ds', e, _⟩
  · cases e
    exact ⟨a, xs, q1, q2, h2, h3⟩
  all_goals cases e
def mAppend (i : Nat) (m : SS → EO Dt) : SS → SO := fun ss => match ownL ss i with
  | some _ => (m ss).st fun d ss => match ownL ss i with
    | some ds => if ds.length < sizeLine then .nx (ss.set i (some (.o (.list (ds ++ [d]))))) else .no
    | none => .no
  | none => .no
theorem s_append (i : Nat) {x : Str} {p1 p2 p3 : Pos} {m : SS → EO Dt} (h : VE X K mg W e m) (eK : ∀ j, (X j).K = K) (hN : ∀ j, (X j).N[i]? = some x) (hv : ∀ j, Vis (X j).env.scope x) (hd : (x == ("__debug__" : Str)) = false := by decide) (hcd : (x == ("__classdict__" : Str)) = false := by decide)
    (hb : ∀ j, attributeBase (.Name x p1) "append" (X j).env (eval (.Name x p1) (X j).env) = eval (.Name x p1) (X j).env := by intro _; rfl)
    (hf : ∀ j, ((backTo p3 (starEach (e :: []) (X j).env)).all (fun x => !x.1) && (backToKw p3 (keywordEach [] (X j).env)).all (fun x => x.1.isSome) && decide ((e :: []).length + ([] : List Keyword).length + (if ([] : List Keyword).isEmpty then 0 else 1) < 30)) = true := by intro _; rfl)
    (hl : (p2.endLine == p3.line) = true := by rfl) (hst : ∀ j, starEach (e :: []) (X j).env = (false, eval e (X j).env) :: starEach [] (X j).env := by intro _; rfl) (hpl : ∀ j, (backTo p3 (starEach [] (X j).env)).any (·.1) = false := by intro _; rfl)
    (hsw : ∀ j, swapsWith (.Call (.Attribute (.Name x p1) "append" p2) [e] [] p3) none pos.line (X j).env = pure false := by intro _; rfl) :
    VS X K mg W (.Expr (.Call (.Attribute (.Name x p1) "append" p2) [e] [] p3) pos) (mAppend i m) := by
  obtain ⟨t, h1, h2⟩ := h.ex
  refine ⟨tDrop (tBM K "list" rAppend (tVar i) (tCons t tNil)), fun j => ps_expr (by
    rw [← eK j]
    exact pe_bm PySem.F.plainAttrs_list PySem.F.slot_list_append PySem.F.type_list_append (show MtR (X j) "list.append" rAppend from mt_append) (pe_var (hN j) (hv j) hd hcd) (pa_cons (h1 j) pa_nil (hst j)) (hb j) (hf j) hl (hst j) (hpl j)) (hsw j), fun ω ss σ H D rs q => ?_⟩
  unfold mAppend at q
  cases ho : ownL ss i with
  | none => rw [ho] at q; exact q.elim
  | some ds0 =>
    rw [ho] at q
    obtain ⟨a, xs, w1, w2, w3, w4⟩ := rs.ownL ho
    refine ⟨_, w1, .inl ⟨rfl, _, .of w3⟩, h2 ω ss σ H _ rs (seqS q fun d ss1 ω1 H1 y _ rs1 fr1 rp1 q1 => ?_)⟩
    cases ho1 : ownL ss1 i with
    | none => rw [ho1] at q1; exact q1.elim
    | some ds =>
      rw [ho1] at q1
      dsimp only at q1
      obtain ⟨a1, ys, v1, v2, v3, v4⟩ := rs1.ownL ho1
      have ea : a1 = a := by
        rw [w1] at v1
        cases v1
        rfl
      subst ea
      split at q1
      · rename_i hlt
        have em : hid ω1 (upd H1 a1 (.lst (ys ++ [y]))) = hid ω1 H1 := by
          funext b
          by_cases hb : b = a1
          · subst hb
            unfold hid
            rw [v2]
          · unfold hid
            rw [upd_ne hb]
        obtain ⟨m1, m2, m3⟩ := rs1.mut (o := .lst (ys ++ [y])) (s := .o (.list (ds ++ [d]))) v2 v1 ⟨a1, rfl, v2, .inl ⟨_, _, rfl, upd_same, by rw [em]; exact v4.app (.one rp1)⟩⟩
        exact ⟨a1, ys, y, rfl, rfl, v3, by rw [v4.length]; exact hlt, q1 ω1 σ _ m1 m2⟩
      · exact q1.elim
end
end VL

namespace VL
open PySem PySem.Spec L2
open PyProof.Rows hiding St
variable [WW]
open RZ

def Off (gi : List Nat) (σ σ' : St) : Prop := σ'.length = σ.length ∧ ∀ j : Nat, j ∉ gi → σ'[j]? = σ[j]?
structure VG {ι : Type} (X : ι → Cx) (K : PySem.W.Frag) (tg : Expr) (gi : List Nat) (g : Dt → SS → Option SS) : Prop where
  ex : ∃ t : TG, (∀ i, PG (X i) tg t) ∧ ∀ ω ss σ H x d ss' (Q : St → Hp → Prop), RS K ω ss σ H → Rp K (hid ω H) x d → g d ss = some ss' → (∀ ω' σ', RS K ω' ss' σ' H → Frm ω H ω' H → Off gi σ σ' → Q σ' H) → t x σ H Q
structure VGs {ι : Type} (X : ι → Cx) (K : PySem.W.Frag) (tgs : List Expr) (gi : List Nat) (g : List Dt → SS → Option SS) : Prop where
  ex : ∃ t : TGs, (∀ i, PGs (X i) tgs t) ∧ ∀ ω ss σ H xs ds ss' (Q : St → Hp → Prop), RS K ω ss σ H → RpA K (hid ω H) xs ds → g ds ss = some ss' → (∀ ω' σ', RS K ω' ss' σ' H → Frm ω H ω' H → Off gi σ σ' → Q σ' H) → t xs σ H Q
def gNm (i : Nat) : Dt → SS → Option SS := fun d ss => if i < ss.length then some (ss.set i (some (.v d))) else none
def gNilV : List Dt → SS → Option SS := fun ds ss => match ds with
  | [] => some ss
  | _ :: _ => none
def gConsV (g : Dt → SS → Option SS) (h : List Dt → SS → Option SS) : List Dt → SS → Option SS := fun ds ss => match ds with
  | [] => none
  | d :: ds => match g d ss with
    | some ss' => h ds ss'
    | none => none
def gTupV (n : Nat) (h : List Dt → SS → Option SS) : Dt → SS → Option SS := fun d ss => match d with
  | .tuple ds => if ds.length = n then h ds ss else none
  | _ => none
section
variable {ι : Type} {X : ι → Cx} {k : Nat} {P : Program} {w : World} {K : PySem.W.Frag} {mg : Str → Option Value} {base : Heap} {W : WX} {e a b c : Expr} {es : List Expr} {pos : Pos}
theorem g_nm (i : Nat) {x : Str} {p : Pos} (nd : ∀ j, (X j).N.Nodup) (hi : ∀ j, (X j).N[i]? = some x) (hx : ∀ j, Loc (X j).env.scope x) (hf : ∀ j, (X j).fn x = true ∨ (X j).env.scope.names.lookup x = some .local := by intro _; first | exact .inl rfl | exact .inr rfl) : VG X K (.Name x p) [i] (gNm i) := by
  refine ⟨_, fun j => pg_name (nd j) (hi j) (hx j) (hf j), fun ω ss σ H x d ss' Q rs rp hg q => ?_⟩
  unfold gNm at hg
  split at hg
  · rename_i hlt
    cases hg
    have hl : i < σ.length := by rw [← rs.len]; exact hlt
    have h2 := rs.few
    refine q (drop ω i) _ (rs.put hl hid_drop (fun b j hb => ?_) (fun j b hj _ hb => drop_ne hb hj) (Rp.mono hid_drop _ _ rp)) (.drop (by omega)) ⟨by simp, fun j hj => ?_⟩
    · unfold drop at hb
      split at hb
      · cases hb
      · exact rs.own b j hb
    · rw [List.getElem?_set_ne (fun z => hj (by simp [z]))]
  · cases hg
theorem gs_nil : VGs X K [] [] gNilV := by
  refine ⟨_, fun _ => pgs_nil, fun ω ss σ H xs ds ss' Q rs rp hg q => ?_⟩
  unfold gNilV at hg
  split at hg
  · cases hg
    cases rp
    exact ⟨rfl, q ω σ rs (.refl _ _) ⟨rfl, fun _ _ => rfl⟩⟩
  · cases hg
theorem gs_cons {tg : Expr} {tgs : List Expr} {gi gj : List Nat} {g : Dt → SS → Option SS} {h : List Dt → SS → Option SS} (h1 : VG X K tg gi g) (h2 : VGs X K tgs gj h)
    (hs : ∀ i, (assignEach (tg :: tgs) (X i).env).map (·.2) = assign tg (X i).env :: (assignEach tgs (X i).env).map (·.2) := by intro _; rfl) : VGs X K (tg :: tgs) (gi ++ gj) (gConsV g h) := by
  obtain ⟨t, a1, a2⟩ := h1.ex
  obtain ⟨u, b1, b2⟩ := h2.ex
  refine ⟨_, fun i => pgs_cons (a1 i) (b1 i) (hs i), fun ω ss σ H xs ds ss' Q rs rp hg q => ?_⟩
  unfold gConsV at hg
  split at hg
  · cases hg
  · rename_i d ds
    split at hg
    · rename_i ss1 hg1
      cases rp with
      | cons r1 r2 =>
        refine ⟨_, _, rfl, a2 ω ss σ H _ d ss1 _ rs r1 hg1 fun ω1 σ1 rs1 fr1 o1 => b2 ω1 ss1 σ1 H _ ds ss' Q rs1 (RpA.mono fr1.fz _ _ r2) hg fun ω2 σ2 rs2 fr2 o2 => q ω2 σ2 rs2 (fr1.trans fr2) ⟨o2.1.trans o1.1, fun j hj => ?_⟩⟩
        rw [List.mem_append, not_or] at hj
        exact (o2.2 j hj.2).trans (o1.2 j hj.1)
    · cases hg
theorem g_tup (C : VC X k P w K mg base W) {tgs : List Expr} {gi : List Nat} {h : List Dt → SS → Option SS} {z n : Nat} (h2 : VGs X K tgs gi h) (hn : ∀ i, (assignEach tgs (X i).env).length = n := by intro _; rfl) (hst : ∀ i, (assignEach tgs (X i).env).findIdx? (·.1) = none := by intro _; rfl) :
    VG X K (.Tuple tgs z pos) gi (gTupV n h) := by
  obtain ⟨u, b1, b2⟩ := h2.ex
  refine ⟨gTup K n u, fun i => by rw [← C.eK i]; exact pg_tup (C.ca i) (b1 i) (hn i) (hst i), fun ω ss σ H x d ss' Q rs rp hg q => ?_⟩
  unfold gTupV at hg
  split at hg
  · rename_i ds
    split at hg
    · rename_i hl
      cases rp with
      | tup r1 r2 => exact ⟨_, _, rfl, sqT_mono hid_le r1, by rw [r2.length]; exact hl, b2 ω ss σ H _ ds ss' Q rs r2 hg q⟩
    · cases hg
  · cases hg
/-- a target takes what an expression gives -/
def mAsg (g : Dt → SS → Option SS) (m : SS → EO Dt) : SS → SO := fun ss => (m ss).st fun d ss => match g d ss with
  | some ss' => .nx ss'
  | none => .no
theorem s_asg {tg : Expr} {gi : List Nat} {g : Dt → SS → Option SS} {m : SS → EO Dt} (hg : VG X K tg gi g) (h : VE X K mg W e m) (hs : ∀ i, swapsWithSole [tg] e pos.line (X i).env = pure false := by intro _; rfl) (hw : ∀ i, swappedStores [tg] e (X i).env = pure none := by intro _; rfl)
    (h1 : ∀ i, (assignEach [tg] (X i).env).map (·.2) = [assign tg (X i).env] := by intro _; rfl) : VS X K mg W (.Assign [tg] e pos) (mAsg g m) := by
  obtain ⟨t, a1, a2⟩ := h.ex
  obtain ⟨u, b1, b2⟩ := hg.ex
  refine ⟨_, fun i => ps_asg (a1 i) (b1 i) (hs i) (hw i) (h1 i), fun ω ss σ H D rs q => a2 ω ss σ H _ rs ?_⟩
  refine seqS q fun d ss1 ω1 H1 x _ rs1 fr1 rp1 q1 => ?_
  split at q1
  · rename_i ss2 hg2
    exact b2 ω1 ss1 σ H1 x d ss2 _ rs1 rp1 hg2 fun ω2 σ2 rs2 fr2 _ => q1 ω2 σ2 H1 rs2 fr2
  · exact q1.elim

def WalkJ (K : PySem.W.Frag) (F : Hp) (items : List Dt) (J : It) : Prop := ∀ (H : Hp) (i : Nat), Same F H →
  (∀ d, items[i]? = some d → J.go i H ∧ ∀ x H', J.yld i H x H' → Same H H' ∧ ∀ F', Same F F' → (∀ a o, H' a = some o → H a = none → F' a = some o) → Rp K F' x d) ∧ (i = items.length → J.stop i H)
structure VI {ι : Type} (X : ι → Cx) (K : PySem.W.Frag) (mg : Str → Option Value) (W : WX) (tg it : Expr) (m : SS → EO (List Dt)) : Prop where
  ex : ∃ wi : TI, (∀ i, PI (X i) tg it wi) ∧ ∀ ω ss σ H R, RS K ω ss σ H → EQg (fun ω' H' (J : It) items => WalkJ K (hid ω' H') items J) K mg W ω σ H (m ss) R → wi σ H R
def signs (z : Str) : List Dt := z.cps.toList.map fun c => .str ⟨#[c]⟩
def itemsD : Dt → Option (List Dt)
  | .list ds => some ds
  | .tuple ds => some ds
  | .str z => some (signs z)
  | _ => none
/-- a list, a tuple, a text -/
def iSq (K : PySem.W.Frag) (te : TE) : TI := fun σ H R => te σ H fun x H1 => (∃ a xs, x = .ref a ∧ SqL K H1 a xs ∧ R (Itl K a) H1) ∨ (∃ a xs, x = .ref a ∧ SqT K H1 a xs ∧ R (Itt K a) H1) ∨ ∃ z, x = .str z ∧ R (Its z) H1
theorem pi_sq {Y : Cx} {tg : Expr} {te : TE} (he : PE Y e te) : PI Y tg e (iSq Y.K te) := by
  refine ⟨fun pins s σ H R I h => thn (he.run pins s σ H _ I h) fun v s1 hv => ?_⟩
  obtain ⟨y, H1, I1, r1, h1⟩ := hv
  rcases h1 with ⟨a, xs, rfl, hq, q⟩ | ⟨a, xs, rfl, hq, q⟩ | ⟨z, rfl, q⟩
  · cases r1
    obtain ⟨its, _, p, _⟩ := I1.list hq
    exact wpAny_pyIter_list p.isList (pi_one (tk := s1.toks) I1 _ (turn_list a _) ⟨_, Heap.get?_push_size _ rfl, rfl, rfl⟩ q)
  · cases r1
    obtain ⟨its, _, p, _⟩ := I1.tuple hq
    exact wpAny_pyIter_tuple (show s1.heap.IsTuple a its.toArray from p) (pi_one (tk := s1.toks) I1 _ (turn_tuple a _) ⟨_, Heap.get?_push_size _ rfl, rfl, rfl⟩ q)
  · obtain ⟨t, rfl⟩ := r1
    cases ha : z.cps.all (· < 128)
    · exact wpAny_pyIter_wide ha (pi_one (tk := s1.toks) I1 _ (turn_str _ z t "str_iterator" (.inr rfl)) ⟨_, Heap.get?_push_size _ rfl, rfl, rfl⟩ q)
    · exact wpAny_pyIter_ascii ha (pi_one (tk := s1.toks) I1 _ (turn_str _ z t "str_ascii_iterator" (.inl rfl)) ⟨_, Heap.get?_push_size _ rfl, rfl, rfl⟩ q)
def mItems (m : SS → EO Dt) : SS → EO (List Dt) := fun ss => (m ss).bind fun d ss => .lift (itemsD d) ss
theorem walk_list {F : Hp} {a : Addr} {xs : List V} {ds : List Dt} (h : F a = some (.lst xs)) (r : RpA K F xs ds) : WalkJ K F ds (Itl K a) := fun H i hs => by
  have hq : SqL K H a xs := .of (hs _ _ h)
  refine ⟨fun d hd => ?_, fun e => ⟨xs, hq, by rw [r.length, e]; exact Nat.le_refl _⟩⟩
  obtain ⟨x, hx, rx⟩ := r.get hd
  refine ⟨⟨xs, x, hq, hx⟩, fun y H' hy => ?_⟩
  obtain ⟨rfl, hy⟩ := hy
  have ey : y = x := Option.some.inj ((hy xs hq).symm.trans hx)
  subst ey
  exact ⟨Same.refl _, fun F' hF _ => Rp.mono hF _ _ rx⟩
theorem walk_tup {F : Hp} {a : Addr} {xs : List V} {ds : List Dt} (h : SqT K F a xs) (r : RpA K F xs ds) : WalkJ K F ds (Itt K a) := fun H i hs => by
  have hq : SqT K H a xs := sqT_mono hs h
  refine ⟨fun d hd => ?_, fun e => ⟨xs, hq, by rw [r.length, e]; exact Nat.le_refl _⟩⟩
  obtain ⟨x, hx, rx⟩ := r.get hd
  refine ⟨⟨xs, x, hq, hx⟩, fun y H' hy => ?_⟩
  obtain ⟨rfl, hy⟩ := hy
  have ey : y = x := Option.some.inj ((hy xs hq).symm.trans hx)
  subst ey
  exact ⟨Same.refl _, fun F' hF _ => Rp.mono hF _ _ rx⟩
theorem walk_str {F : Hp} {z : Str} : WalkJ K F (signs z) (Its z) := fun H i hs => by
  refine ⟨fun d hd => ?_, fun e => ?_⟩
  · unfold signs at hd
    rw [List.getElem?_map] at hd
    obtain ⟨cc, h1, rfl⟩ := Option.map_eq_some_iff.mp hd
    have h2 : z.cps[i]? = some cc := by simpa using h1
    refine ⟨(Array.getElem?_eq_some_iff.mp h2).1, fun y H' hy => ?_⟩
    obtain ⟨rfl, c2, h3, rfl⟩ := hy
    rw [h2] at h3
    cases h3
    exact ⟨Same.refl _, fun F' _ _ => .str _⟩
  · subst e
    show z.cps.size ≤ (signs z).length
    unfold signs
    simp
theorem i_sq (C : VC X k P w K mg base W) {tg : Expr} {m : SS → EO Dt} (h : VE X K mg W e m) : VI X K mg W tg e (mItems m) := by
  obtain ⟨t, a1, a2⟩ := h.ex
  refine ⟨iSq K t, fun i => by rw [← C.eK i]; exact pi_sq (a1 i), fun ω ss σ H R rs q => a2 ω ss σ H _ rs ?_⟩
  refine seqE (R2 := fun ω' H' (J : It) items => WalkJ K (hid ω' H') items J) q fun d ss1 ω1 H1 x _ rs1 fr1 rp1 q1 => ?_
  obtain ⟨items, hi, q1⟩ := lift_get q1
  cases rp1 with
  | lst r1 r2 =>
    cases hi
    exact .inl ⟨_, _, rfl, .of (hid_le _ _ r1), q1 ω1 H1 _ rs1 (.refl _ _) (walk_list r1 r2)⟩
  | tup r1 r2 =>
    cases hi
    exact .inr (.inl ⟨_, _, rfl, sqT_mono hid_le r1, q1 ω1 H1 _ rs1 (.refl _ _) (walk_tup r1 r2)⟩)
  | str z =>
    cases hi
    exact .inr (.inr ⟨z, rfl, q1 ω1 H1 _ rs1 (.refl _ _) walk_str⟩)
  | _ => cases hi
def rangeD (lo : Int) (n : Nat) : List Dt := (List.range n).map fun i => .int (lo + (i : Nat))
theorem rangeD_len {lo : Int} {n : Nat} : (rangeD lo n).length = n := by unfold rangeD; simp
theorem walk_rng {F : Hp} {lo : Int} {n : Nat} : WalkJ K F (rangeD lo n) (Itr lo n) := fun H i hs => by
  refine ⟨fun d hd => ?_, fun e => ?_⟩
  · unfold rangeD at hd
    rw [List.getElem?_map] at hd
    obtain ⟨j, h1, rfl⟩ := Option.map_eq_some_iff.mp hd
    have h2 := List.getElem?_eq_some_iff.mp h1
    obtain ⟨h3, h4⟩ := h2
    rw [List.getElem_range] at h4
    subst h4
    refine ⟨show i < n by simpa using h3, fun y H' hy => ?_⟩
    obtain ⟨rfl, rfl⟩ := hy
    exact ⟨Same.refl _, fun F' _ _ => .int _⟩
  · rw [rangeD_len] at e
    subst e
    exact Nat.le_refl _
def small62 (i : Int) : Prop := -(2 ^ 62) ≤ i ∧ i < 2 ^ 62
instance (i : Int) : Decidable (small62 i) := by unfold small62; exact inferInstance
def mRng1 (m : SS → EO (List Dt)) : SS → EO (List Dt) := fun ss => (m ss).bind fun ds ss => match ds with
  | [.int j] => if small62 j then .ok (rangeD 0 j.toNat) ss else .no
  | _ => .no
def mRng2 (m : SS → EO (List Dt)) : SS → EO (List Dt) := fun ss => (m ss).bind fun ds ss => match ds with
  | [.int i, .int j] => if small62 i ∧ small62 j then .ok (rangeD i (j - i).toNat) ss else .no
  | _ => .no
theorem i_rng1 (C : VC X k P w K mg base W) {tg : Expr} {p : Pos} {m : SS → EO (List Dt)} (h : VA X K mg W [e] m) (hg : ∀ i, Gl (X i) "range") (hm : mg "range" = none) (hs : ∀ i, starEach [e] (X i).env = [(false, eval e (X i).env)] := by intro _; rfl) : VI X K mg W tg (.Call (.Name "range" p) [e] [] pos) (mRng1 m) := by
  obtain ⟨t, a1, a2⟩ := h.ex
  refine ⟨_, fun i => pi_range1 (hg i) (by rw [C.em i]; exact hm) (a1 i) (hs i), fun ω ss σ H R rs q => a2 ω ss σ H _ rs ?_⟩
  refine seqE (R2 := fun ω' H' (J : It) items => WalkJ K (hid ω' H') items J) q fun d ss1 ω1 H1 x _ rs1 fr1 rp1 q1 => ?_
  split at q1
  · split at q1
    · rename_i j _ hj
      cases rp1 with
      | cons r1 r2 =>
        cases r1
        cases r2
        exact ⟨j, rfl, hj.1, hj.2, q1 ω1 H1 _ rs1 (.refl _ _) walk_rng⟩
    · exact q1.elim
  · exact q1.elim
theorem i_rng2 (C : VC X k P w K mg base W) {tg e2 : Expr} {p : Pos} {m : SS → EO (List Dt)} (h : VA X K mg W [e, e2] m) (hg : ∀ i, Gl (X i) "range") (hm : mg "range" = none) (hs : ∀ i, starEach [e, e2] (X i).env = [(false, eval e (X i).env), (false, eval e2 (X i).env)] := by intro _; rfl) (hs2 : ∀ i, starEach [e2] (X i).env = [(false, eval e2 (X i).env)] := by intro _; rfl) : VI X K mg W tg (.Call (.Name "range" p) [e, e2] [] pos) (mRng2 m) := by
  obtain ⟨t, a1, a2⟩ := h.ex
  refine ⟨_, fun i => pi_range2 (hg i) (by rw [C.em i]; exact hm) (a1 i) (hs i) (hs2 i), fun ω ss σ H R rs q => a2 ω ss σ H _ rs ?_⟩
  refine seqE (R2 := fun ω' H' (J : It) items => WalkJ K (hid ω' H') items J) q fun d ss1 ω1 H1 x _ rs1 fr1 rp1 q1 => ?_
  split at q1
  · split at q1
    · rename_i i' j _ hj
      cases rp1 with
      | cons r1 r2 =>
        cases r1
        cases r2 with
        | cons r3 r4 =>
          cases r3
          cases r4
          exact ⟨i', j, rfl, ⟨hj.1.1, hj.1.2, hj.2.1, hj.2.2⟩, q1 ω1 H1 _ rs1 (.refl _ _) walk_rng⟩
    · exact q1.elim
  · exact q1.elim
def enumD (i : Nat) : List Dt → List Dt
  | [] => []
  | d :: ds => .tuple [.int (i : Nat), d] :: enumD (i + 1) ds
theorem enumD_get : ∀ {ds : List Dt} {k i : Nat} {d : Dt}, (enumD k ds)[i]? = some d → ∃ d', ds[i]? = some d' ∧ d = .tuple [.int ((k + i : Nat) : Int), d']
  | [], _, _, _, h => by simp [enumD] at h
  | d :: ds, k, 0, d0, h => by
    have e : PyData.tuple [.int (k : Nat), d] = d0 := by simpa [enumD] using h
    exact ⟨d, rfl, e.symm⟩
  | d :: ds, k, i + 1, _, h => by
    obtain ⟨d', h1, h2⟩ := enumD_get (ds := ds) (k := k + 1) (i := i) (by simpa [enumD] using h)
    exact ⟨d', by simpa using h1, by rw [h2]; simp only [Nat.add_assoc, Nat.add_comm 1 i]⟩
theorem enumD_len : ∀ {ds : List Dt} {k : Nat}, (enumD k ds).length = ds.length
  | [], _ => rfl
  | d :: ds, k => by simp [enumD, enumD_len]
def mEnum (m : SS → EO (List Dt)) : SS → EO (List Dt) := fun ss => (m ss).bind fun ds ss => match ds with
  | [.list xs] => .ok (enumD 0 xs) ss
  | _ => .no
theorem i_enum (C : VC X k P w K mg base W) {p tpos : Pos} {elts : List Expr} {kk : Nat} {m : SS → EO (List Dt)} (h : VA X K mg W [e] m) (hg : ∀ i, Gl (X i) "enumerate") (hm : mg "enumerate" = none) (hs : ∀ i, starEach [e] (X i).env = [(false, eval e (X i).env)] := by intro _; rfl) :
    VI X K mg W (.Tuple elts kk tpos) (.Call (.Name "enumerate" p) [e] [] pos) (mEnum m) := by
  obtain ⟨t, a1, a2⟩ := h.ex
  refine ⟨iEnum K t, fun i => by rw [← C.eK i]; exact pi_enum (hg i) (by rw [C.em i]; exact hm) (a1 i) (hs i), fun ω ss σ H R rs q => a2 ω ss σ H _ rs ?_⟩
  refine seqE (R2 := fun ω' H' (J : It) items => WalkJ K (hid ω' H') items J) q fun d ss1 ω1 H1 x _ rs1 fr1 rp1 q1 => ?_
  split at q1
  · rename_i ds
    cases rp1 with
    | cons r1 r2 =>
      cases r2
      cases r1 with
      | @lst a xs _ r1 r2 =>
        refine ⟨a, xs, rfl, .of (hid_le _ _ r1), q1 ω1 H1 _ rs1 (.refl _ _) fun H2 i hs2 => ?_⟩
        have hq : SqL K H2 a xs := .of (hs2 _ _ r1)
        refine ⟨fun d hd => ?_, fun ei => ⟨xs, hq, by rw [r2.length, ei, enumD_len]; exact Nat.le_refl _⟩⟩
        obtain ⟨d', h1, rfl⟩ := enumD_get hd
        obtain ⟨x, hx, rx⟩ := r2.get h1
        refine ⟨⟨xs, x, hq, hx⟩, fun y H' hy => ?_⟩
        obtain ⟨T, x', rfl, hT, rfl, hy⟩ := hy
        have ey : x' = x := Option.some.inj ((hy xs hq).symm.trans hx)
        subst ey
        refine ⟨same_upd hT, fun F' hF hn => .tup (.of (hn T _ upd_same hT)) (.cons ?_ (.one (Rp.mono hF _ _ rx)))⟩
        rw [Nat.zero_add]
        exact .int _
  · exact q1.elim
def zipD : List Dt → List Dt → List Dt
  | d :: ds, e :: es => .tuple [d, e] :: zipD ds es
  | _, _ => []
theorem zipD_get : ∀ {ds es : List Dt} {i : Nat} {d : Dt}, (zipD ds es)[i]? = some d → ∃ d' e', ds[i]? = some d' ∧ es[i]? = some e' ∧ d = .tuple [d', e']
  | [], _, _, _, h => by simp [zipD] at h
  | _ :: _, [], _, _, h => by simp [zipD] at h
  | d :: ds, e :: es, 0, _, h => ⟨d, e, rfl, rfl, by simpa [zipD] using h.symm⟩
  | d :: ds, e :: es, i + 1, _, h => by
    obtain ⟨d', e', h1, h2, h3⟩ := zipD_get (ds := ds) (es := es) (i := i) (by simpa [zipD] using h)
    exact ⟨d', e', by simpa using h1, by simpa using h2, h3⟩
theorem zipD_len : ∀ {ds es : List Dt}, (zipD ds es).length = min ds.length es.length
  | [], _ => by simp [zipD]
  | _ :: _, [] => by simp [zipD]
  | d :: ds, e :: es => by simp only [zipD, List.length_cons, zipD_len]; omega
def mZip (m : SS → EO (List Dt)) : SS → EO (List Dt) := fun ss => (m ss).bind fun ds ss => match ds with
  | [.list xs, .list ys] => .ok (zipD xs ys) ss
  | [.tuple xs, .tuple ys] => .ok (zipD xs ys) ss
  | _ => .no
theorem i_zip (C : VC X k P w K mg base W) {e2 : Expr} {p tpos : Pos} {elts : List Expr} {kk : Nat} {m : SS → EO (List Dt)} (h : VA X K mg W [e, e2] m) (hg : ∀ i, Gl (X i) "zip") (hm : mg "zip" = none)
    (hs : ∀ i, starEach [e, e2] (X i).env = (false, eval e (X i).env) :: starEach [e2] (X i).env := by intro _; rfl) (hs2 : ∀ i, (backTo pos (starEach [e2] (X i).env)).any (·.1) = false := by intro _; rfl) :
    VI X K mg W (.Tuple elts kk tpos) (.Call (.Name "zip" p) [e, e2] [] pos) (mZip m) := by
  obtain ⟨t, a1, a2⟩ := h.ex
  refine ⟨iZipA K t, fun i => by rw [← C.eK i]; exact pi_zipA (hg i) (by rw [C.em i]; exact hm) (a1 i) (hs i) (hs2 i), fun ω ss σ H R rs q => a2 ω ss σ H _ rs ?_⟩
  refine seqE (R2 := fun ω' H' (J : It) items => WalkJ K (hid ω' H') items J) q fun d ss1 ω1 H1 x _ rs1 fr1 rp1 q1 => ?_
  split at q1
  · rename_i ds es
    cases rp1 with
    | cons r1 r2 =>
      cases r2 with
      | cons r2 r3 =>
        cases r3
        cases r1 with
        | @lst a xs _ r1 r3 =>
          cases r2 with
          | @lst b ys _ r2 r4 =>
            refine ⟨a, b, xs, ys, rfl, .inl ⟨.of (hid_le _ _ r1), .of (hid_le _ _ r2), q1 ω1 H1 _ rs1 (.refl _ _) fun H2 i hs2 => ?_⟩⟩
            have hq : SqL K H2 a xs := .of (hs2 _ _ r1)
            have hq' : SqL K H2 b ys := .of (hs2 _ _ r2)
            refine ⟨fun d hd => ?_, fun ei => ⟨xs, ys, hq, hq', ?_⟩⟩
            · obtain ⟨d', e', h1, h2, rfl⟩ := zipD_get hd
              obtain ⟨x, hx, rx⟩ := r3.get h1
              obtain ⟨y, hy, ry⟩ := r4.get h2
              refine ⟨⟨xs, ys, x, y, hq, hq', hx, hy⟩, fun v H' hv => ?_⟩
              obtain ⟨T, x', y', rfl, hT, rfl, hv1, hv2⟩ := hv
              have ex : x' = x := Option.some.inj ((hv1 xs hq).symm.trans hx)
              have ey : y' = y := Option.some.inj ((hv2 ys hq').symm.trans hy)
              subst ex ey
              exact ⟨same_upd hT, fun F' hF hn => .tup (.of (hn T _ upd_same hT)) (.cons (Rp.mono hF _ _ rx) (.one (Rp.mono hF _ _ ry)))⟩
            · rw [r3.length, r4.length, ei, zipD_len]
              omega
  · rename_i ds es
    cases rp1 with
    | cons r1 r2 =>
      cases r2 with
      | cons r2 r3 =>
        cases r3
        cases r1 with
        | @tup a xs _ r1 r3 =>
          cases r2 with
          | @tup b ys _ r2 r4 =>
            refine ⟨a, b, xs, ys, rfl, .inr ⟨sqT_mono hid_le r1, sqT_mono hid_le r2, q1 ω1 H1 _ rs1 (.refl _ _) fun H2 i hs2 => ?_⟩⟩
            have hq : SqT K H2 a xs := sqT_mono hs2 r1
            have hq' : SqT K H2 b ys := sqT_mono hs2 r2
            refine ⟨fun d hd => ?_, fun ei => ⟨xs, ys, hq, hq', ?_⟩⟩
            · obtain ⟨d', e', h1, h2, rfl⟩ := zipD_get hd
              obtain ⟨x, hx, rx⟩ := r3.get h1
              obtain ⟨y, hy, ry⟩ := r4.get h2
              refine ⟨⟨xs, ys, x, y, hq, hq', hx, hy⟩, fun v H' hv => ?_⟩
              obtain ⟨T, x', y', rfl, hT, rfl, hv1, hv2⟩ := hv
              have ex : x' = x := Option.some.inj ((hv1 xs hq).symm.trans hx)
              have ey : y' = y := Option.some.inj ((hv2 ys hq').symm.trans hy)
              subst ex ey
              exact ⟨same_upd hT, fun F' hF hn => .tup (.of (hn T _ upd_same hT)) (.cons (Rp.mono hF _ _ rx) (.one (Rp.mono hF _ _ ry)))⟩
            · rw [r3.length, r4.length, ei, zipD_len]
              omega
  · exact q1.elim

def forGo (g : Dt → SS → Option SS) (n : SS → SO) : List Dt → SS → SO
  | [], ss => .nx ss
  | d :: ds, ss => match g d ss with
    | none => .no
    | some ss1 => match n ss1 with
      | .nx ss2 => forGo g n ds ss2
      | .ct ss2 => forGo g n ds ss2
      | .bk ss2 => .nx ss2
      | .rt d ss2 => .rt d ss2
      | .exc c fs ss2 => .exc c fs ss2
      | .no => .no
def mFor (m : SS → EO (List Dt)) (g : Dt → SS → Option SS) (n : SS → SO) : SS → SO := fun ss => (m ss).st fun items ss => forGo g n items ss
theorem s_for (C : VC X k P w K mg base W) {tg it : Expr} {body : List Stmt} {gi : List Nat} {m : SS → EO (List Dt)} {g : Dt → SS → Option SS} {n : SS → SO} (hi : VI X K mg W tg it m) (hg : VG X K tg gi g) (hb : VSs X K mg W body n)
    (hs : ∀ i x, foldedSetIterable it (X i).env x = pure x := by intro _ _; rfl) : VS X K mg W (.For tg it body [] pos) (mFor m g n) := by
  obtain ⟨wi, a1, a2⟩ := hi.ex
  obtain ⟨t, b1, b2⟩ := hg.ex
  obtain ⟨u, c1, c2⟩ := hb.ex
  refine ⟨_, fun i => ps_for (C.po i) (C.ca i) (a1 i) (b1 i) (c1 i) (hs i), fun ω ss σ H D rs q => a2 ω ss σ H _ rs ?_⟩
  refine seqS (R := fun ω' H' (J : It) items => WalkJ K (hid ω' H') items J) q fun items ss1 ω1 H1 J _ rs1 fr1 wj q1 => ?_
  refine ⟨fun i mm σ' H' => mm = items.length - i ∧ i ≤ items.length ∧ ∃ ω2 ss2, RS K ω2 ss2 σ' H' ∧ Frm ω1 H1 ω2 H' ∧ SQ K mg W D ω2 H' (forGo g n (items.drop i) ss2), ⟨_, rfl, Nat.zero_le _, ω1, ss1, rs1, .refl _ _, q1⟩, ?_⟩
  rintro i mm σ2 H2 ⟨rfl, hle, ω2, ss2, rs2, fr2, q2⟩
  obtain ⟨wgo, wstop⟩ := wj H2 i (fr2.fz.trans hid_le)
  by_cases hlt : i < items.length
  · have hd : items[i]? = some items[i] := List.getElem?_eq_getElem hlt
    obtain ⟨go, yl⟩ := wgo _ hd
    have hdr : items.drop i = items[i] :: items.drop (i + 1) := List.drop_eq_getElem_cons hlt
    rw [hdr] at q2
    refine .inr ⟨go, fun σ' H' => ∃ ω3 ss3, RS K ω3 ss3 σ' H' ∧ Frm ω1 H1 ω3 H' ∧ SQ K mg W D ω3 H' (forGo g n (items.drop (i + 1)) ss3), fun σ' H' hN => ⟨items.length - (i + 1), by omega, rfl, hlt, hN⟩, fun x H3 hy => ?_⟩
    obtain ⟨sm, rp⟩ := yl x H3 hy
    have rs3 := rs2.grow sm
    have fr3 : Frm ω2 H2 ω2 H3 := .grow sm rs2.own
    have rp3 : Rp K (hid ω2 H3) x items[i] := rp _ ((fr2.trans fr3).fz) fun a o h1 h2 => by
      rw [hid_of (rs2.free h2)]
      exact h1
    rw [forGo] at q2
    cases hgs : g items[i] ss2 with
    | none => rw [hgs] at q2; exact q2.elim
    | some ss4 =>
      rw [hgs] at q2
      dsimp only at q2
      refine b2 ω2 ss2 σ2 H3 x _ ss4 _ rs3 rp3 hgs fun ω4 σ4 rs4 fr4 _ => c2 ω4 ss4 σ4 H3 _ rs4 ?_
      have fr5 := fr3.trans fr4
      cases hn : n ss4 with
      | nx ss5 =>
        rw [hn] at q2
        exact fun ω' σ' H' rs' fr' => ⟨ω', ss5, rs', (fr2.trans fr5).trans fr', q2.shift (fr5.trans fr')⟩
      | ct ss5 =>
        rw [hn] at q2
        exact fun ω' σ' H' rs' fr' => ⟨ω', ss5, rs', (fr2.trans fr5).trans fr', q2.shift (fr5.trans fr')⟩
      | bk ss5 => rw [hn] at q2; exact fun ω' σ' H' rs' fr' => q2 ω' σ' H' rs' (fr5.trans fr')
      | rt d ss5 => rw [hn] at q2; exact fun ω' σ' H' x rs' fr' rx => q2 ω' σ' H' x rs' (fr5.trans fr') rx
      | exc c fs ss5 => rw [hn] at q2; exact fun ω' σ' H' cls dd rs' fr' xr => q2 ω' σ' H' cls dd rs' (fr5.trans fr') xr
      | no => rw [hn] at q2; exact q2.elim
  · have ei : i = items.length := by omega
    rw [List.drop_of_length_le (by omega)] at q2
    exact .inl ⟨wstop ei, q2 ω2 σ2 H2 rs2 (.refl _ _)⟩

def whileN (c : SS → EO Bool) (n : SS → SO) : Nat → SS → SO
  | 0, _ => .no
  | f + 1, ss => (c ss).st fun z ss1 => if z = true then (match n ss1 with
      | .nx ss2 => whileN c n f ss2
      | .ct ss2 => whileN c n f ss2
      | .bk ss2 => .nx ss2
      | .rt d ss2 => .rt d ss2
      | .exc c fs ss2 => .exc c fs ss2
      | .no => .no) else .nx ss1
open Classical in
/-- as many turns as it takes -/
noncomputable def mWhile (c : SS → EO Bool) (n : SS → SO) : SS → SO := fun ss => if h : ∃ f, whileN c n f ss ≠ .no then whileN c n h.choose ss else .no
theorem s_while (C : VC X k P w K mg base W) {body : List Stmt} {t : SS → EO Bool} {n : SS → SO} (hc : VT X K mg W c t) (hb : VSs X K mg W body n) : VS X K mg W (.While c body [] pos) (mWhile t n) := by
  obtain ⟨tc, a1, a2⟩ := hc.ex
  obtain ⟨u, c1, c2⟩ := hb.ex
  refine ⟨_, fun i => ps_while (C.po i) (a1 i) (c1 i), fun ω ss σ H D rs q => ?_⟩
  have hq : ∃ f, SQ K mg W D ω H (whileN t n f ss) := by
    unfold mWhile at q
    split at q
    · exact ⟨_, q⟩
    · exact q.elim
  obtain ⟨f, q⟩ := hq
  refine ⟨fun m σ' H' => ∃ ω2 ss2, RS K ω2 ss2 σ' H' ∧ SQ K mg W D ω2 H' (whileN t n m ss2), ⟨f, ω, ss, rs, q⟩, ?_⟩
  rintro m σ2 H2 ⟨ω2, ss2, rs2, q2⟩
  cases m with
  | zero => exact q2.elim
  | succ m =>
    rw [whileN] at q2
    refine a2 ω2 ss2 σ2 H2 _ rs2 (seqS q2 fun z ss3 ω3 H3 x _ rs3 fr3 rp3 q3 => ?_)
    cases rp3
    cases z with
    | false => exact q3 ω3 σ2 H3 rs3 (.refl _ _)
    | true =>
      refine ⟨fun σ' H' => ∃ ω4 ss4, RS K ω4 ss4 σ' H' ∧ SQ K mg W D ω4 H' (whileN t n m ss4), fun σ' H' hN => ⟨m, Nat.lt_succ_self _, hN⟩, c2 ω3 ss3 σ2 H3 _ rs3 ?_⟩
      have q3 : SQ K mg W D ω3 H3 (match n ss3 with
        | .nx ss2 => whileN t n m ss2
        | .ct ss2 => whileN t n m ss2
        | .bk ss2 => .nx ss2
        | .rt d ss2 => .rt d ss2
        | .exc c fs ss2 => .exc c fs ss2
        | .no => .no) := q3
      cases hn : n ss3 with
      | nx ss5 => rw [hn] at q3; exact fun ω' σ' H' rs' fr' => ⟨ω', ss5, rs', q3.shift fr'⟩
      | ct ss5 => rw [hn] at q3; exact fun ω' σ' H' rs' fr' => ⟨ω', ss5, rs', q3.shift fr'⟩
      | bk ss5 => rw [hn] at q3; exact q3
      | rt d ss5 => rw [hn] at q3; exact q3
      | exc c fs ss5 => rw [hn] at q3; exact q3
      | no => rw [hn] at q3; exact q3
end
end VL

namespace VL
open PySem PySem.Spec L2
open PyProof.Rows hiding St
variable [WW]

abbrev WF : WX := fun _ _ _ _ => False
abbrev BI (ι : Type) : Type := ι × Shared × Hp × Addr × List (Str × Addr) × List Addr
/-- the contexts of a comprehension's block -/
abbrev blkX {ι : Type} (X : ι → Cx) (scope : Scope) : BI ι → Cx := fun z => (X z.1).blk z.2.1 z.2.2.1 scope (compEnvC scope z.2.2.2.2.1 z.2.2.2.1 (X z.1).env) z.2.2.2.2.2
theorem VC.blk {ι : Type} {X : ι → Cx} {k : Nat} {P : Program} {w : World} {K : PySem.W.Frag} {mg : Str → Option Value} {base : Heap} {W : WX} (C : VC X k P w K mg base W) (scope : Scope) : VC (blkX X scope) k P w K mg base WF :=
  ⟨fun z => C.eP z.1, C.hw, fun z => C.ew z.1, fun z => C.eK z.1, fun z => C.em z.1, fun z => C.eb z.1, fun z => C.rm z.1, fun z => C.gd z.1, fun z => C.ca z.1, fun z => C.nd z.1, fun z u s' x => by
    obtain ⟨_, _, _, _, _, _, _, _, _, _, _, _, _, _, _, _, h⟩ := x
    exact h.elim, fun z => PassesOwn.never⟩
structure VTs {ι : Type} (X : ι → Cx) (K : PySem.W.Frag) (mg : Str → Option Value) (W : WX) (es : List Expr) (m : SS → EO Bool) : Prop where
  ex : ∃ t : TT, (∀ i, PTs (X i) es t) ∧ ∀ ω ss σ H Q, RS K ω ss σ H → EQg EqB K mg W ω σ H (m ss) Q → t σ H Q
def mYes : SS → EO Bool := fun ss => .ok true ss
def wipeS (ss : SS) : List Nat → SS
  | [] => ss
  | v :: vs => (wipeS ss vs).set v none
def restS (ss1 ss2 : SS) : List Nat → SS
  | [] => ss2
  | v :: vs => (restS ss1 ss2 vs).set v (match ss1[v]? with
    | some (some (.v d)) => some (.v d)
    | _ => none)
theorem wipeS_len (ss : SS) : ∀ vs : List Nat, (wipeS ss vs).length = ss.length
  | [] => rfl
  | v :: vs => by rw [wipeS, List.length_set, wipeS_len ss vs]
theorem wipeS_some {ss : SS} {i : Nat} {s : SV} : ∀ {vs : List Nat}, (wipeS ss vs)[i]? = some (some s) → i ∉ vs ∧ ss[i]? = some (some s)
  | [], h => ⟨by simp, h⟩
  | v :: vs, h => by
    rw [wipeS] at h
    by_cases hi : v = i
    · subst hi
      by_cases hv : v < (wipeS ss vs).length
      · rw [List.getElem?_set_self hv] at h; cases h
      · rw [List.getElem?_eq_none (by simpa using hv)] at h; cases h
    · rw [List.getElem?_set_ne hi] at h
      obtain ⟨h1, h2⟩ := wipeS_some h
      exact ⟨by rw [List.mem_cons, not_or]; exact ⟨fun z => hi z.symm, h1⟩, h2⟩
theorem restS_len (ss1 ss2 : SS) : ∀ vs : List Nat, (restS ss1 ss2 vs).length = ss2.length
  | [] => rfl
  | v :: vs => by rw [restS, List.length_set, restS_len ss1 ss2 vs]
theorem restS_some {ss1 ss2 : SS} {i : Nat} {s : SV} : ∀ {vs : List Nat}, (restS ss1 ss2 vs)[i]? = some (some s) → (i ∉ vs ∧ ss2[i]? = some (some s)) ∨ ∃ d, s = .v d ∧ ss1[i]? = some (some (.v d))
  | [], h => .inl ⟨by simp, h⟩
  | v :: vs, h => by
    rw [restS] at h
    by_cases hi : v = i
    · subst hi
      by_cases hv : v < (restS ss1 ss2 vs).length
      · rw [List.getElem?_set_self hv] at h
        have h : (match ss1[v]? with
          | some (some (.v d)) => some (SV.v d)
          | _ => none) = some s := Option.some.inj h
        split at h
        · rename_i d q
          cases h
          exact .inr ⟨d, rfl, q⟩
        · cases h
      · rw [List.getElem?_eq_none (by simpa using hv)] at h; cases h
    · rw [List.getElem?_set_ne hi] at h
      rcases restS_some h with ⟨h1, h2⟩ | h2
      · exact .inl ⟨by rw [List.mem_cons, not_or]; exact ⟨fun z => hi z.symm, h1⟩, h2⟩
      · exact .inr h2
theorem wipe_in {σ : St} {i : Nat} (hi : i < σ.length) : ∀ {vs : List Nat}, i ∈ vs → (wipe σ vs)[i]? = some none
  | [], h => nomatch h
  | v :: vs, h => by
    unfold wipe
    by_cases hv : v = i
    · subst hv
      rw [List.getElem?_set_self (by rw [wipe_length]; exact hi)]
    · rw [List.getElem?_set_ne hv]
      rcases List.mem_cons.mp h with e | e
      · exact absurd e.symm hv
      · exact wipe_in hi e
theorem wipe_off {σ σ' : St} {gi vs : List Nat} (h : Off gi (wipe σ vs) σ') (hg : ∀ j ∈ gi, j ∈ vs) : wipe σ' vs = wipe σ vs := by
  have hl : σ'.length = σ.length := by rw [h.1, wipe_length]
  refine List.ext_getElem? fun j => ?_
  by_cases hj : j ∈ vs
  · by_cases hlt : j < σ.length
    · rw [wipe_in (by omega) hj, wipe_in hlt hj]
    · rw [List.getElem?_eq_none (by rw [wipe_length]; omega), List.getElem?_eq_none (by rw [wipe_length]; omega)]
  · rw [wipe_out hj, h.2 j fun z => hj (hg j z)]
section
variable {K : PySem.W.Frag} {ω ω' : Om} {ss ss1 ss2 : SS} {σ : St} {H H' : Hp}
theorem RS.wipe (r : RS K ω ss σ H) (vs : List Nat) : RS K ω (wipeS ss vs) (wipe σ vs) H :=
  ⟨by rw [wipeS_len, wipe_length]; exact r.len, by rw [wipe_length]; exact r.few, r.own, fun i s h => by
    obtain ⟨h1, h2⟩ := wipeS_some h
    obtain ⟨x, q1, q2⟩ := r.sl i s h2
    exact ⟨x, by rw [wipe_out h1]; exact q1, q2⟩⟩
theorem RS.rest {vs : List Nat} (r1 : RS K ω ss1 σ H) (r2 : RS K ω' ss2 (L2.wipe σ vs) H') (f : Same (hid ω H) (hid ω' H')) : RS K ω' (restS ss1 ss2 vs) σ H' :=
  ⟨by rw [restS_len, r2.len, wipe_length], r1.few, r2.own, fun i s h => by
    rcases restS_some h with ⟨h1, h2⟩ | ⟨d, rfl, h2⟩
    · obtain ⟨x, q1, q2⟩ := r2.sl i s h2
      rw [wipe_out h1] at q1
      exact ⟨x, q1, q2⟩
    · obtain ⟨x, q1, q2⟩ := r1.sl i _ h2
      exact ⟨x, q1, Rp.mono f _ _ q2⟩⟩
/-- an object of a high owner's is changed -/
theorem RS.mutT {D : Addr} {o : HO} {k : Nat} (r : RS K ω ss σ H) (hk : 1000 ≤ k) (hD : ω D = some k) : RS K ω ss σ (upd H D o) ∧ hid ω (upd H D o) = hid ω H := by
  have e : hid ω (upd H D o) = hid ω H := by
    funext b
    by_cases hb : b = D
    · subst hb; unfold hid; rw [hD]
    · unfold hid; rw [upd_ne hb]
  refine ⟨⟨r.len, r.few, fun b j hb => ?_, fun i s h => ?_⟩, e⟩
  · by_cases hbD : b = D
    · rw [hbD, upd_same]; rfl
    · rw [upd_ne hbD]; exact r.own b j hb
  · obtain ⟨x, q1, q2⟩ := r.sl i s h
    have hi : i < σ.length := (List.getElem?_eq_some_iff.mp q1).1
    have hf := r.few
    refine ⟨x, q1, q2.keep (by rw [e]; exact Same.refl _) fun b hb => ⟨hb, upd_ne fun z => ?_⟩⟩
    rw [z, hD] at hb
    have := Option.some.inj hb
    omega
theorem Frm.mutT {D : Addr} {o : HO} {k : Nat} (f : Frm ω H ω' H') (h0 : ω D = none) (h1 : H D = none) (hD : ω' D = some k) : Frm ω H ω' (upd H' D o) := by
  have e : hid ω' (upd H' D o) = hid ω' H' := by
    funext b
    by_cases hb : b = D
    · subst hb; unfold hid; rw [hD]
    · unfold hid; rw [upd_ne hb]
  refine ⟨by rw [e]; exact f.fz, fun b j hj hb => ?_, fun b hb => ?_⟩
  · obtain ⟨g1, g2⟩ := f.tp b j hj hb
    exact ⟨g1, (upd_ne fun z => by rw [z, h0] at hb; cases hb).trans g2⟩
  · by_cases hbD : b = D
    · rw [hbD]; exact h1
    · rw [upd_ne hbD] at hb; exact f.tr b hb
end
def EO.calm {α : Type} : EO α → EO α
  | .ok a ss => .ok a ss
  | .exc _ _ _ => .no
  | .no => .no
def lcGo (vs : List Nat) (g : Dt → SS → Option SS) (mt : SS → EO Bool) (me : SS → EO Dt) : List Dt → SS → List Dt → EO (List Dt)
  | [], ss, acc => .ok acc ss
  | d :: ds, ss, acc => match g d ss with
    | none => .no
    | some ss1 => (mt ss1).calm.bind fun z ss2 => if z = true then (me ss2).calm.bind fun y ss3 => if acc.length < sizeLine then lcGo vs g mt me ds (wipeS ss3 vs) (acc ++ [y]) else .no else lcGo vs g mt me ds (wipeS ss2 vs) acc
def mLc (m : SS → EO (List Dt)) (vs : List Nat) (g : Dt → SS → Option SS) (mt : SS → EO Bool) (me : SS → EO Dt) : SS → EO Dt := fun ss => (m ss).bind fun items ss1 => (lcGo vs g mt me items (wipeS ss1 vs) []).bind fun acc ss2 => .ok (.list acc) (restS ss1 ss2 vs)
section
variable {ι : Type} {X : ι → Cx} {k : Nat} {P : Program} {w : World} {K : PySem.W.Frag} {mg : Str → Option Value} {base : Heap} {W : WX} {e a b c : Expr} {es : List Expr} {pos : Pos}
theorem ts_nil : VTs X K mg W [] mYes := ⟨_, fun _ => pts_nil, fun ω ss σ H Q rs q => q ω H _ rs (.refl _ _) rfl⟩
theorem ts_one {m : SS → EO Bool} (h : VT X K mg W e m) : VTs X K mg W [e] m := let ⟨t, h1, h2⟩ := h.ex; ⟨t, fun i => pts_one (h1 i), h2⟩
theorem lc_go {vs gi : List Nat} {m : SS → EO (List Dt)} {g : Dt → SS → Option SS} {mt : SS → EO Bool} {me : SS → EO Dt} {wi : TI} {t : TG} {tt : TT} {te : TE}
    (a2 : ∀ ω ss σ H R, RS K ω ss σ H → EQg (fun ω' H' (J : It) items => WalkJ K (hid ω' H') items J) K mg W ω σ H (m ss) R → wi σ H R)
    (b2 : ∀ ω ss σ H x d ss' (Q : St → Hp → Prop), RS K ω ss σ H → Rp K (hid ω H) x d → g d ss = some ss' → (∀ ω' σ', RS K ω' ss' σ' H → Frm ω H ω' H → Off gi σ σ' → Q σ' H) → t x σ H Q)
    (c2 : ∀ ω ss σ H Q, RS K ω ss σ H → EQg EqB K mg WF ω σ H (mt ss) Q → tt σ H Q)
    (d2 : ∀ ω ss σ H Q, RS K ω ss σ H → EQg (RpE K) K mg WF ω σ H (me ss) Q → te σ H Q) (hgi : ∀ j ∈ gi, j ∈ vs)
    {k : Nat} {ω : Om} {ss : SS} {σ : St} {H : Hp} {Q : VK} (hk : 1000 ≤ k) (rs : RS K ω ss σ H) (q : EQg (NewR K H k) K mg W ω σ H (mLc m vs g mt me ss) Q) : tLc wi t tt te vs σ H Q := by
  refine a2 ω ss σ H _ rs (seqE0 (R := fun ω' H' (J : It) items => WalkJ K (hid ω' H') items J) (R2 := NewR K H k) q fun items ss1 ω1 H1 J _ rs1 fr1 wj q1 => ?_)
  intro D hD
  have hD0 : H D = none := fr1.tr D hD
  have hDω : ω D = none := rs.free hD0
  obtain ⟨ω2, e2, rs2, fr2, hs2⟩ := (rs1.wipe vs).new (o := .lst []) hk hD
  refine ⟨fun i mm H' => mm = items.length - i ∧ i ≤ items.length ∧ ∃ ω3 ss3 acc xs, RS K ω3 ss3 (wipe σ vs) H' ∧ Frm ω H ω3 H' ∧ Same (hid ω1 H1) (hid ω3 H') ∧ ω3 D = some k ∧ H' D = some (.lst xs) ∧ RpA K (hid ω3 H') xs acc ∧
      EQg (NewR K H k) K mg W ω σ H ((lcGo vs g mt me (items.drop i) ss3 acc).bind fun acc ss2 => .ok (.list acc) (restS ss1 ss2 vs)) Q,
    ⟨_, rfl, Nat.zero_le _, ω2, _, [], [], rs2, fr1.trans fr2, hs2, e2, upd_same, .nil, q1⟩, ?_⟩
  rintro i mm H3 ⟨rfl, hle, ω3, ss3, acc, xs, rs3, fr3, sm3, e3, hx3, rp3, q3⟩
  obtain ⟨wgo, wstop⟩ := wj H3 i (sm3.trans hid_le)
  by_cases hlt : i < items.length
  · obtain ⟨go, yl⟩ := wgo _ (List.getElem?_eq_getElem hlt)
    have hdr : items.drop i = items[i] :: items.drop (i + 1) := List.drop_eq_getElem_cons hlt
    rw [hdr] at q3
    refine .inr ⟨go, fun H' => ∃ ω3 ss3 acc xs, RS K ω3 ss3 (wipe σ vs) H' ∧ Frm ω H ω3 H' ∧ Same (hid ω1 H1) (hid ω3 H') ∧ ω3 D = some k ∧ H' D = some (.lst xs) ∧ RpA K (hid ω3 H') xs acc ∧
      EQg (NewR K H k) K mg W ω σ H ((lcGo vs g mt me (items.drop (i + 1)) ss3 acc).bind fun acc ss2 => .ok (.list acc) (restS ss1 ss2 vs)) Q, fun H' hN => ⟨items.length - (i + 1), by omega, rfl, hlt, hN⟩, fun x H4 hy => ?_⟩
    obtain ⟨sm, rp⟩ := yl x H4 hy
    have rs4 := rs3.grow sm
    have fr4 : Frm ω3 H3 ω3 H4 := .grow sm rs3.own
    have rp4 : Rp K (hid ω3 H4) x items[i] := rp _ (sm3.trans fr4.fz) fun a o h1 h2 => by
      rw [hid_of (rs3.free h2)]
      exact h1
    rw [lcGo] at q3
    cases hgs : g items[i] ss3 with
    | none => rw [hgs] at q3; exact q3.elim
    | some ss4 =>
      rw [hgs] at q3
      dsimp only at q3
      refine b2 ω3 ss3 _ H4 x _ ss4 _ rs4 rp4 hgs fun ω5 σ5 rs5 fr5 off => ?_
      have ew : wipe σ5 vs = wipe σ vs := wipe_off off hgi
      refine ⟨ew, ?_⟩
      refine c2 ω5 ss4 σ5 H4 _ rs5 ?_
      cases hmt : mt ss4 with
      | no => rw [hmt] at q3; exact q3.elim
      | exc c fs s' => rw [hmt] at q3; exact q3.elim
      | ok z ss5 =>
        rw [hmt] at q3
        intro ω6 H6 z' rs6 fr6 ez
        have ez : z' = z := ez
        subst ez
        have fr46 : Frm ω3 H3 ω6 H6 := (fr4.trans fr5).trans fr6
        have q3 : EQg (NewR K H k) K mg W ω σ H ((if z' = true then (me ss5).calm.bind fun y ss3 => if acc.length < sizeLine then lcGo vs g mt me (items.drop (i + 1)) (wipeS ss3 vs) (acc ++ [y]) else .no else lcGo vs g mt me (items.drop (i + 1)) (wipeS ss5 vs) acc).bind fun acc ss2 => .ok (.list acc) (restS ss1 ss2 vs)) Q := q3
        obtain ⟨t1, t2⟩ := fr46.tp D k hk e3
        cases z' with
        | false =>
          rw [if_neg Bool.false_ne_true] at q3 ⊢
          have rw' := rs6.wipe vs
          rw [ew] at rw'
          exact ⟨ω6, _, acc, xs, rw', fr3.trans fr46, sm3.trans fr46.fz, t1, t2.trans hx3, RpA.mono fr46.fz _ _ rp3, q3⟩
        | true =>
          rw [if_pos rfl] at q3 ⊢
          refine d2 ω6 ss5 σ5 H6 _ rs6 ?_
          cases hme : me ss5 with
          | no => rw [hme] at q3; exact q3.elim
          | exc c fs s' => rw [hme] at q3; exact q3.elim
          | ok y ss6 =>
            rw [hme] at q3
            intro ω7 H7 yv rs7 fr7 rp7
            have q3 : EQg (NewR K H k) K mg W ω σ H ((if acc.length < sizeLine then lcGo vs g mt me (items.drop (i + 1)) (wipeS ss6 vs) (acc ++ [y]) else .no).bind fun acc ss2 => .ok (.list acc) (restS ss1 ss2 vs)) Q := q3
            have fr47 := fr46.trans fr7
            obtain ⟨u1, u2⟩ := fr47.tp D k hk e3
            have rp3' : RpA K (hid ω7 H7) xs acc := RpA.mono fr47.fz _ _ rp3
            split at q3
            · rename_i hz
              have rw' := rs7.wipe vs
              rw [ew] at rw'
              obtain ⟨m1, m2⟩ := rw'.mutT (o := .lst (xs ++ [yv])) hk u1
              refine ⟨xs, u2.trans hx3, by rw [rp3'.length]; exact hz, ω7, _, acc ++ [y], xs ++ [yv], m1, (fr3.trans fr47).mutT hDω hD0 u1, by rw [m2]; exact sm3.trans fr47.fz, u1, upd_same, by rw [m2]; exact rp3'.app (.one rp7), q3⟩
            · exact q3.elim
  · have ei : i = items.length := by omega
    rw [List.drop_of_length_le (by omega)] at q3
    exact .inl ⟨wstop ei, q3 ω3 H3 (.ref D) (rs1.rest rs3 sm3) fr3 ⟨D, rfl, hD0, e3, .inl ⟨_, _, rfl, hx3, rp3⟩⟩⟩
/-- [elt for target in iter if ..] -/
theorem o_lc (C : VC X k P w K mg base W) {tg it elt : Expr} {ifs : List Expr} {scope : Scope} {own : List (Str × Nat)} {gi : List Nat} {m : SS → EO (List Dt)} {g : Dt → SS → Option SS} {mt : SS → EO Bool} {me : SS → EO Dt}
    (ok : ∀ i, BlkOk (X i).N (X i).env.scope scope own) (hi : VI X K mg W tg it m) (hg : VG (blkX X scope) K tg gi g) (ht : VTs (blkX X scope) K mg WF ifs mt) (he : VE (blkX X scope) K mg WF elt me) (hgi : ∀ j ∈ gi, j ∈ own.map (·.2) := by decide)
    (hs : ∀ i x, foldedSetIterable it (X i).env x = pure x := by intro _ _; rfl) : VO X K mg W (.ListComp elt [⟨tg, it, ifs, 0⟩] scope pos) (mLc m (own.map (·.2)) g mt me) := by
  obtain ⟨wi, a1, a2⟩ := hi.ex
  obtain ⟨t, b1, b2⟩ := hg.ex
  obtain ⟨tt, c1, c2⟩ := ht.ex
  obtain ⟨te, d1, d2⟩ := he.ex
  exact ⟨_, fun i => pe_lc (C.ca i) (C.nd i) (a1 i) (ok i) (fun s H Ca cl fp => b1 (i, s, H, Ca, cl, fp)) (fun s H Ca cl fp => c1 (i, s, H, Ca, cl, fp)) (fun s H Ca cl fp => d1 (i, s, H, Ca, cl, fp)) (hs i), fun k ω ss σ H Q hk rs q => lc_go a2 b2 c2 d2 hgi hk rs q⟩
/-- name = [..] on one line -/
theorem s_setLc (C : VC X k P w K mg base W) (i : Nat) {y : Str} {py spos : Pos} {tg it elt : Expr} {ifs : List Expr} {scope : Scope} {own : List (Str × Nat)} {gi : List Nat} {m : SS → EO (List Dt)} {g : Dt → SS → Option SS} {mt : SS → EO Bool} {me : SS → EO Dt}
    (hy : ∀ j, (X j).N[i]? = some y) (hyl : ∀ j, (X j).env.scope.names.lookup y = some .local) (hsw : ∀ j, swapsWith (.ListComp elt [⟨tg, it, ifs, 0⟩] scope pos) (some (.Name y py)) spos.line (X j).env = pure true)
    (ok : ∀ i, BlkOk (X i).N (X i).env.scope scope own) (hi : VI X K mg W tg it m) (hg : VG (blkX X scope) K tg gi g) (ht : VTs (blkX X scope) K mg WF ifs mt) (he : VE (blkX X scope) K mg WF elt me) (hgi : ∀ j ∈ gi, j ∈ own.map (·.2) := by decide)
    (hs : ∀ i x, foldedSetIterable it (X i).env x = pure x := by intro _ _; rfl) : VS X K mg W (.Assign [.Name y py] (.ListComp elt [⟨tg, it, ifs, 0⟩] scope pos) spos) (mSet i (mOw (mLc m (own.map (·.2)) g mt me))) := by
  obtain ⟨wi, a1, a2⟩ := hi.ex
  obtain ⟨t, b1, b2⟩ := hg.ex
  obtain ⟨tt, c1, c2⟩ := ht.ex
  obtain ⟨te, d1, d2⟩ := he.ex
  refine ⟨_, fun j => ps_setLc (C.ca j) (C.nd j) (hy j) (hyl j) (hsw j) (a1 j) (ok j) (fun s H Ca cl fp => b1 (j, s, H, Ca, cl, fp)) (fun s H Ca cl fp => c1 (j, s, H, Ca, cl, fp)) (fun s H Ca cl fp => d1 (j, s, H, Ca, cl, fp)) (hs j), fun ω ss σ H D rs q => ?_⟩
  refine lc_go a2 b2 c2 d2 hgi (Nat.le_refl 1000) rs (seqS0 (D := D) (f := fun d ss => if i < ss.length then .nx (ss.set i (some (NV.ow d).sv)) else .no) (Q := fun x H1 => gName i x σ H1 D.nx) ?_ fun d ss1 ω1 H1 y _ rs1 fr1 rp1 q1 => ?_)
  · unfold mSet mOw at q
    cases hm : mLc m (own.map (·.2)) g mt me ss with
    | no => rw [hm] at q; exact q
    | exc c fs s' => rw [hm] at q; exact q
    | ok d ss1 => rw [hm] at q; exact q
  · split at q1
    · rename_i hlt
      obtain ⟨ω2, rs2, fr2, hs2, _⟩ := store_nv (n := .ow d) rs1 fr1 (fun a ha => rs.free ha) (Nat.le_refl 1000) (by rw [← rs1.len]; exact hlt) rp1
      exact q1 ω2 _ H1 rs2 fr2
    · exact q1.elim
end
end VL

namespace VL
open PySem PySem.Spec L2
open PyProof.Rows hiding St
variable [WW]

/-- a def's promise, where no repr is under way -/
structure FnG (P : Program) (w : World) (K : PySem.W.Frag) (mg : Str → Option Value) (base : Heap) (k : Nat) (f : Addr) (fd : FuncData) (ps : List Str) (sp : Sp) : Prop where
  len : ∀ vs H Q E, sp vs H Q E → vs.length = ps.length
  go : ∀ (A : Around) (outer : List Env) (s : Shared) (H : Hp) (args : Args) (us : List Value) (vs : List V) (Q : VK) (E : XK),
    Room k A → A.guards = some [] → Env0 P w K mg base A outer s H → BindsTo s fd args (ps.zip us) → Vals vs us → sp vs H Q E →
    codeAny (model P w) A (.call (.ref f) args) (CR (L2.CX P w) outer P w H s Q E) s
section
variable {P : Program} {w : World} {K : PySem.W.Frag} {mg : Str → Option Value} {base : Heap} {k : Nat} {f : Addr} {fd : FuncData} {N ps : List Str} {sp sp' : Sp} {x qual : Str} {st : Stmt}
theorem FnG.mono {j : Nat} (F : FnG P w K mg base j f fd ps sp) (h : j ≤ k) : FnG P w K mg base k f fd ps sp := ⟨F.len, fun A outer s H args us vs Q E hr => F.go A outer s H args us vs Q E (hr.mono h)⟩
theorem FnG.imp (F : FnG P w K mg base k f fd ps sp) (h : ∀ vs H Q E, sp' vs H Q E → sp vs H Q E) : FnG P w K mg base k f fd ps sp' :=
  ⟨fun vs H Q E z => F.len vs H Q E (h _ _ _ _ z), fun A outer s H args us vs Q E hr hg he hb hv z => F.go A outer s H args us vs Q E hr hg he hb hv (h _ _ _ _ z)⟩
/-- by the body -/
theorem FnG.of (F : Fun K x qual st f fd) (S : FnScope N ps (defScope st)) (len : ∀ vs H Q E, sp vs H Q E → vs.length = ps.length)
    (body : ∀ (cdv : Value) (A : Around) (outer : List Env) (s : Shared) (H : Hp) (vs : List V) (Q : VK) (E : XK), Room k (A.deeper (envOfC qual (defScope st) s.heap.objs.size f cdv)) → A.guards = some [] → sp vs H Q E →
      ∃ t, PSs (cxOf (L2.CX P w) P w K mg base N qual (defScope st) f cdv A outer s H E) (defBody st) t ∧ t { nx := fun _ H' => Q .non H', rt := Q } (L2.start N vs) H) :
    FnG P w K mg base (k + 1) f fd ps sp := by
  obtain ⟨oc, od, kV, doc, pm, an, cdv, ct, osl, rfl, lk, hcd⟩ := F.ex
  refine ⟨len, fun A outer s H args us vs Q E hr hg e0 hb rv hsp => ?_⟩
  have lenv := len _ _ _ _ hsp
  have keepB : ∀ b o, base.get? b = some o → s.heap.get? b = some o := fun b o e => (e0.bs b o e).1
  have inK : K.In s.heap := e0.mod.kin.keeps keepB
  have kinds : ∀ y ∈ ps.zip us, (defScope st).names.lookup y.1 = some .local ∨ ((defScope st).names.lookup y.1 = some .cell ∧ ((cellsFrom (s.heap.objs.size + 1) (defScope st).names []).lookup y.1).isSome = true) := by
    rintro ⟨n, v⟩ hy
    rcases S.par n (List.of_mem_zip hy).1 with z | z
    · exact .inl z
    · exact .inr ⟨z, PySem.W.cellsFrom_some _ _ _ (.inl z)⟩
  refine codeAny_call_function hr.depth (inK _ _ lk) rfl S.co S.gen rfl (PySem.W.codeRec_of inK hcd) (hb _ _ _ _ ?_)
  refine wpAny_newFunctionEnv_cells S.kind kinds fun env he s1 ic => ?_
  subst he
  refine ⟨(e0.mod.nolimit.keeps keepB).keeps ic.toInCall.keep, codeAny_func ?_⟩
  obtain ⟨t, ht, hq⟩ := body cdv A outer s H vs Q E (hr.deeper _) hg hsp
  have I0 := inv_start (CX := L2.CX P w) (mg := mg) (E := E) S hr.hd e0 lenv rv ic
  refine wpAny_mono (ht.run [] s1 (L2.start N vs) H _ I0 hq) (fun fl s' hs => ?_) (fun e s' hs => hs)
  cases fl with
  | ret u =>
    obtain ⟨v, σ', H', J, r1, q⟩ := hs
    exact ⟨v, H', J.os, J.bare, J.base, J.hok, r1, q⟩
  | next =>
    obtain ⟨σ', H', J, q⟩ := hs
    exact ⟨.non, H', J.os, J.bare, J.base, J.hok, rfl, q⟩
  | brk => exact hs.elim fun _ z => z.elim fun _ z => z.2.elim
  | cont => exact hs.elim fun _ z => z.elim fun _ z => z.2.elim
end

section
variable {Y : Cx} {k : Nat} {f : Addr} {fd : FuncData} {ps ks : List Str} {sp : Sp} {E : St → XK} {x m : Str} {p pos apos : Pos} {e o : Expr} {es : List Expr} {kws : List Keyword} {t tk : TA}
theorem run_g {pins : List (Addr × Obj)} {σ : St} {H : Hp} {s : Shared} {Q : VK} {args : Args} {us' : List Value} {vs : List V} (F : FnG Y.prog Y.w Y.K Y.mg Y.base k f fd ps sp) (hr : Room k Y.A) (hg : Y.A.guards = some []) (hx : PassesAt (L2.CX Y.prog Y.w) Y σ (E σ))
    (I : Inv Y pins σ H s) (hb : BindsTo s fd args (ps.zip us')) (r : Vals vs us') (h : sp vs H Q (E σ)) : codeAny (model Y.prog Y.w) Y.A (.call (.ref f) args) (fun r s' => match r with
      | .ok (.ret u) => EP Y pins σ Q u s'
      | .ok _ => False
      | .error z => Y.xe z s') s := by
  refine codeAny_mono (F.go Y.A Y.stack s H args us' vs Q (E σ) hr hg I.env0 hb r h) fun z s' hq => ?_
  cases z with
  | error z => exact hx pins H s z s' I hq
  | ok fl =>
    cases fl with
    | ret u => exact I.after hq
    | next => exact hq
    | brk => exact hq
    | cont => exact hq
theorem run_gw {pins : List (Addr × Obj)} {σ : St} {H : Hp} {s : Shared} {Q : VK} {us : List Value} {kw : List (Str × Value)} {us' : List Value} {vs : List V} (F : FnG Y.prog Y.w Y.K Y.mg Y.base k f fd ps sp) (hr : Room k Y.A) (hg : Y.A.guards = some []) (hx : PassesAt (L2.CX Y.prog Y.w) Y σ (E σ))
    (I : Inv Y pins σ H s) (hb : BindsTo s fd ⟨us, kw⟩ (ps.zip us')) (r : Vals vs us') (h : sp vs H Q (E σ)) : wpAny (model Y.prog Y.w) Y.A (call (.ref f) us kw) (EP Y pins σ Q) Y.xe s := by
  refine wpAny_call (codeAny_mono (run_g F hr hg hx I hb r h) fun z s' hq => ?_)
  cases z with
  | error z => exact hq
  | ok fl =>
    cases fl with
    | ret u => exact hq
    | next => exact hq
    | brk => exact hq
    | cont => exact hq
/-- f(e, ..) -/
theorem pe_g (F : FnG Y.prog Y.w Y.K Y.mg Y.base k f fd ps sp) (hr : Room k Y.A) (hgd : Y.A.guards = some []) (hg : Gl Y x) (hm : Y.mg x = some (.ref f)) (hk : PySem.W.keepIn Y.K (.ref f) = true) (hb : Binds Y.K fd ps []) (hx : ∀ σ, PassesAt (L2.CX Y.prog Y.w) Y σ (E σ))
    (ha : PA Y (e :: es) t) (hdb : (x == ("__debug__" : Str)) = false) (he : starEach (e :: es) Y.env = (false, eval e Y.env) :: starEach es Y.env) (hpl : (backTo pos (starEach es Y.env)).any (·.1) = false) :
    PE Y (.Call (.Name x p) (e :: es) [] pos) (tCallS sp E t) := by
  refine ⟨fun pins s σ H Q I h => wpAny_Call_Name_kw (ld_glob I hg hm ?_ hdb)⟩
  refine PySem.W.callWith_K (h₀ := Y.base) I.ok.mod.kin hk (thn (ha.run pos pins s σ H _ I h) fun us s1 hv => ?_) he hpl
  obtain ⟨vs, H1, I1, r, q⟩ := hv
  have lv : (us ++ []).length = ps.length := by rw [List.append_nil, ← r.length]; exact F.len _ _ _ _ q
  have b1 := hb s1 us I1.kIn lv
  rw [List.append_nil] at b1
  exact ⟨I1.kIn, run_gw F hr hgd (hx σ) I1 b1 r q⟩
theorem pe_g0 (F : FnG Y.prog Y.w Y.K Y.mg Y.base k f fd ps sp) (hr : Room k Y.A) (hgd : Y.A.guards = some []) (hg : Gl Y x) (hm : Y.mg x = some (.ref f)) (hk : PySem.W.keepIn Y.K (.ref f) = true) (hb : Binds Y.K fd ps []) (hx : ∀ σ, PassesAt (L2.CX Y.prog Y.w) Y σ (E σ))
    (hdb : (x == ("__debug__" : Str)) = false) : PE Y (.Call (.Name x p) [] [] pos) (tCallS sp E tNil) := by
  refine ⟨fun pins s σ H Q I h => wpAny_Call_Name_kw (ld_glob I hg hm ?_ hdb)⟩
  have h : sp [] H Q (E σ) := h
  have lv : (([] : List Value) ++ []).length = ps.length := F.len _ _ _ _ h
  have b1 := hb s [] I.kIn lv
  exact PySem.W.callWith_K0 I.kIn hk (run_gw (us := []) F hr hgd (hx σ) I b1 .nil h)
/-- f(k = e, ..): keywords alone; g puts them in order -/
theorem pe_gk {g : List Value → List Value → List Value} {gV : List V → List V → List V} (F : FnG Y.prog Y.w Y.K Y.mg Y.base k f fd ps sp) (hr : Room k Y.A) (hgd : Y.A.guards = some []) (hg : Gl Y x) (hm : Y.mg x = some (.ref f)) (hk : PySem.W.keepIn Y.K (.ref f) = true)
    (hb : KBinds Y.K fd ps ks g gV) (hx : ∀ σ, PassesAt (L2.CX Y.prog Y.w) Y σ (E σ)) (hkw : PK Y kws tk) (hall : (backToKw pos (keywordEach kws Y.env)).all (·.1.isSome) = true) (hks : (backToKw pos (keywordEach kws Y.env)).filterMap (·.1) = ks)
    (hdb : (x == ("__debug__" : Str)) = false) (hpl : ((backTo pos (starEach [] Y.env)).any (·.1) || (backToKw pos (keywordEach kws Y.env)).any (·.1.isNone)) = false) :
    PE Y (.Call (.Name x p) [] kws pos) (fun σ H Q => tk σ H fun zs H1 => sp (gV [] zs) H1 Q (E σ)) := by
  refine ⟨fun pins s σ H Q I h => wpAny_Call_Name_kw (ld_glob I hg hm ?_ hdb)⟩
  refine PySem.W.callWith_KW0 (h₀ := Y.base) I.ok.mod.kin hk hall (thn (hkw.run pos pins s σ H _ I h) fun ws s1 hv => ?_) hpl
  obtain ⟨zs, H1, I1, r, q⟩ := hv
  refine ⟨I1.kIn, ?_⟩
  rw [hks]
  have r2 := hb.rel .nil r
  have lv : (g [] ws).length = ps.length := by rw [← r2.length]; exact F.len _ _ _ _ q
  exact run_gw F hr hgd (hx σ) I1 (hb.to s1 [] ws I1.kIn lv) r2 q
end

def Keeps (H H' F F' : Hp) : Prop := Same H H' ∧ Same F F' ∧ Same F' H' ∧ ∀ a o, F' a = some o → (F a).isSome = true ∨ H a = none
def spF (K : PySem.W.Frag) (mg : Str → Option Value) (n : Nat) (f : List Dt → Res Dt) : Sp := fun vs H Q E => vs.length = n ∧ ∃ F ds, Same F H ∧ RpA K F vs ds ∧ match f ds with
  | .ok d => ∀ F' H' x, Keeps H H' F F' → Rp K F' x d → Q x H'
  | .exc c fs => ∀ F' H' cls dd, Keeps H H' F F' → XR K mg F' c fs cls dd → E cls dd H'
  | .no => False
def outF : SO → Res Dt
  | .rt d _ => .ok d
  | .nx _ => .ok .none
  | .exc c fs _ => .exc c fs
  | _ => .no
def startS (N : List Str) (ds : List Dt) : SS := ds.map (fun d => some (SV.v d)) ++ List.replicate (N.length - ds.length) none
/-- the context of a def's body -/
abbrev fX (P : Program) (w : World) (K : PySem.W.Frag) (mg : Str → Option Value) (base : Heap) (N : List Str) (qual : Str) (sc : Scope) (f : Addr) (cdv : Value) (A : Around) (outer : List Env) (s : Shared) (H : Hp) (E : XK) : Unit → Cx :=
  fun _ => cxOf (L2.CX P w) P w K mg base N qual sc f cdv A outer s H E
abbrev WX0 (E : XK) : WX := fun cls dd _ H => E cls dd H
section
variable {P : Program} {w : World} {K : PySem.W.Frag} {mg : Str → Option Value} {base : Heap} {k : Nat} {f : Addr} {fd : FuncData} {N ps : List Str} {x qual : Str} {st : Stmt}
theorem VC.fn {sc : Scope} {cdv : Value} {A : Around} {outer : List Env} {s : Shared} {H : Hp} {E : XK} (hw : w = WW.w) (nd : N.Nodup) (hr : Room k (A.deeper (envOfC qual sc s.heap.objs.size f cdv))) (hg : A.guards = some []) :
    VC (fX P w K mg base N qual sc f cdv A outer s H E) k P w K mg base (WX0 E) :=
  ⟨fun _ => rfl, hw, fun _ => rfl, fun _ => rfl, fun _ => rfl, fun _ => rfl, fun _ => hr, fun _ => hg, fun _ => rfl, fun _ => nd, fun _ => takes_of rfl rfl rfl rfl, fun _ => passes_of rfl⟩
theorem startS_get {ds : List Dt} {i : Nat} {s : SV} (h : (startS N ds)[i]? = some (some s)) : ∃ d, ds[i]? = some d ∧ s = .v d := by
  unfold startS at h
  by_cases hi : i < ds.length
  · rw [List.getElem?_append_left (by simpa using hi), List.getElem?_map, List.getElem?_eq_getElem hi] at h
    cases h
    exact ⟨_, List.getElem?_eq_getElem hi, rfl⟩
  · rw [List.getElem?_append_right (by simpa using hi), List.getElem?_replicate] at h
    split at h <;> cases h
theorem start_get {vs : List V} {i : Nat} {v : V} (h : vs[i]? = some v) : (L2.start N vs)[i]? = some (some v) := by
  have hi : i < vs.length := (List.getElem?_eq_some_iff.mp h).1
  unfold L2.start
  rw [List.getElem?_append_left (by simpa using hi), List.getElem?_map, h]
  rfl
/-- what a callee sees as another one's -/
def out0 (F H : Hp) : Om := fun a => if F a = none ∧ H a ≠ none then some 1000000 else none
theorem hid_out0 {F H : Hp} (h : Same F H) : hid (out0 F H) H = F := by
  funext a
  unfold hid out0
  cases hF : F a with
  | some o => simp [h a o hF]
  | none =>
    cases hH : H a with
    | none => simp [hF, hH]
    | some o => simp [hF, hH]
theorem keeps_out0 {F H H' : Hp} {ω' : Om} (h : Same F H) (fr : Frm (out0 F H) H ω' H') : Keeps H H' F (hid ω' H') := by
  have fz := fr.fz
  rw [hid_out0 h] at fz
  have lab : ∀ a o, F a = none → H a = some o → out0 F H a = some 1000000 := fun a o h1 h2 => by
    unfold out0
    rw [if_pos ⟨h1, by rw [h2]; exact fun z => nomatch z⟩]
  refine ⟨fun a o e => ?_, fz, hid_le, fun a o e => ?_⟩
  · cases hF : F a with
    | some o' =>
      have := h a o' hF
      rw [e] at this
      cases this
      exact hid_le _ _ (fz a o hF)
    | none =>
      obtain ⟨_, q⟩ := fr.tp a 1000000 (by decide) (lab a o hF e)
      rw [q]
      exact e
  · cases hF : F a with
    | some o' => exact .inl rfl
    | none =>
      cases hH : H a with
      | none => exact .inr rfl
      | some o' =>
        obtain ⟨q, _⟩ := fr.tp a 1000000 (by decide) (lab a o' hF hH)
        unfold hid at e
        rw [q] at e
        cases e
/-- THE RULE for a def upon data -/
theorem fn_pure {m : SS → SO} (hw : w = WW.w) (F : Fun K x qual st f fd) (S : FnScope N ps (defScope st)) (hN : N.length ≤ 1000)
    (body : ∀ (cdv : Value) (A : Around) (outer : List Env) (s : Shared) (H : Hp) (E : XK), VC (fX P w K mg base N qual (defScope st) f cdv A outer s H E) k P w K mg base (WX0 E) → VSs (fX P w K mg base N qual (defScope st) f cdv A outer s H E) K mg (WX0 E) (defBody st) m) :
    FnG P w K mg base (k + 1) f fd ps (spF K mg ps.length fun ds => outF (m (startS N ds))) := by
  refine FnG.of F S (fun vs H Q E z => z.1) fun cdv A outer s H vs Q E hr hg hsp => ?_
  obtain ⟨hl, F0, ds, hF, rp, hq⟩ := hsp
  dsimp only at hq
  obtain ⟨t, t1, t2⟩ := (body cdv A outer s H E (VC.fn hw S.nd hr hg)).ex
  refine ⟨t, t1 (), t2 (out0 F0 H) (startS N ds) (L2.start N vs) H _ ?_ ?_⟩
  · have hpl : ps.length ≤ N.length := by
      have := congrArg List.length S.pre
      rw [List.length_take] at this
      omega
    refine ⟨?_, ?_, fun a j ha => ?_, fun i sv hi => ?_⟩
    · unfold startS L2.start
      simp only [List.length_append, List.length_map, List.length_replicate, rp.length]
    · unfold L2.start
      simp only [List.length_append, List.length_map, List.length_replicate]
      omega
    · unfold out0 at ha
      split at ha
      · rename_i hc
        exact Option.isSome_iff_ne_none.mpr hc.2
      · cases ha
    · obtain ⟨d, h1, rfl⟩ := startS_get hi
      obtain ⟨v, h2, h3⟩ := rp.get h1
      refine ⟨v, start_get h2, ?_⟩
      show Rp K (hid (out0 F0 H) H) v d
      rw [hid_out0 hF]
      exact h3
  · cases hm : m (startS N ds) with
    | rt d ss' =>
      rw [hm] at hq
      exact fun ω' σ' H' v _ fr rv => hq _ H' v (keeps_out0 hF fr) rv
    | nx ss' =>
      rw [hm] at hq
      exact fun ω' σ' H' _ fr => hq _ H' .non (keeps_out0 hF fr) .non
    | exc c fs ss' =>
      rw [hm] at hq
      exact fun ω' σ' H' cls dd _ fr xr => hq _ H' cls dd (keeps_out0 hF fr) xr
    | bk ss' => rw [hm] at hq; exact hq.elim
    | ct ss' => rw [hm] at hq; exact hq.elim
    | no => rw [hm] at hq; exact hq.elim
/-- the promise in better words -/
theorem spF_imp {n : Nat} {g h : List Dt → Res Dt} (e : ∀ ds, ds.length = n → g ds = h ds ∨ h ds = .no) : ∀ vs H Q E, spF K mg n h vs H Q E → spF K mg n g vs H Q E := fun vs H Q E ⟨hl, F, ds, hF, rp, q⟩ => by
  refine ⟨hl, F, ds, hF, rp, ?_⟩
  rcases e ds (by rw [← rp.length]; exact hl) with z | z
  · rw [z]; exact q
  · rw [z] at q; exact q.elim
end
section
variable {ι : Type} {X : ι → Cx} {k : Nat} {P : Program} {w : World} {K : PySem.W.Frag} {mg : Str → Option Value} {base : Heap} {W : WX} {e a b c : Expr} {es : List Expr} {pos p : Pos} {j n : Nat} {f : Addr} {fd : FuncData} {ps ks : List Str} {x : Str}
theorem RS.behind {ω : Om} {ss : SS} {σ : St} {H H' F' : Hp} (rs : RS K ω ss σ H) (kp : Keeps H H' (hid ω H) F') : RS K ω ss σ H' ∧ Frm ω H ω H' ∧ Same F' (hid ω H') := by
  refine ⟨rs.grow kp.1, .grow kp.1 rs.own, fun a o h => ?_⟩
  have z : ω a = none := by
    rcases kp.2.2.2 a o h with h1 | h1
    · obtain ⟨o', h2⟩ := Option.isSome_iff_exists.mp h1
      exact (hid_some h2).1
    · exact rs.free h1
  rw [hid_of z]
  exact kp.2.2.1 a o h
def mRes (g : List Dt → Res Dt) (m : SS → EO (List Dt)) : SS → EO Dt := fun ss => (m ss).bind fun ds ss => match g ds with
  | .ok d => .ok d ss
  | .exc c fs => .exc c fs ss
  | .no => .no
theorem res_go {g : List Dt → Res Dt} {ω : Om} {ss : SS} {σ : St} {H : Hp} {vs : List V} {ds : List Dt} {Q : VK} (rs : RS K ω ss σ H) (hl : vs.length = n) (rp : RpA K (hid ω H) vs ds)
    (q : EQg (RpE K) K mg W ω σ H (match g ds with
      | .ok d => .ok d ss
      | .exc c fs => .exc c fs ss
      | .no => .no) Q) : spF K mg n g vs H Q (WE W σ) := by
  refine ⟨hl, _, ds, hid_le, rp, ?_⟩
  cases hg : g ds with
  | ok d =>
    rw [hg] at q
    intro F' H' v kp rv
    obtain ⟨r1, r2, r3⟩ := rs.behind kp
    exact q ω H' v r1 r2 (Rp.mono r3 _ _ rv)
  | exc c fs =>
    rw [hg] at q
    intro F' H' cls dd kp xr
    obtain ⟨r1, r2, r3⟩ := rs.behind kp
    exact q ω H' cls dd r1 r2 (xr.mono r3)
  | no => rw [hg] at q; exact q.elim
theorem v_call {g : List Dt → Res Dt} {m : SS → EO (List Dt)} (C : VC X k P w K mg base W) (F : FnG P w K mg base j f fd ps (spF K mg n g)) (hj : j ≤ k) (hn : (e :: es).length = n) (hg : ∀ i, Gl (X i) x) (hm : mg x = some (.ref f)) (hk : PySem.W.keepIn K (.ref f) = true) (hb : Binds K fd ps []) (ha : VA X K mg W (e :: es) m)
    (hdb : (x == ("__debug__" : Str)) = false := by decide) (he : ∀ i, starEach (e :: es) (X i).env = (false, eval e (X i).env) :: starEach es (X i).env := by intro _; rfl) (hpl : ∀ i, (backTo pos (starEach es (X i).env)).any (·.1) = false := by intro _; rfl)
    (hlen : ∀ ss ds ss', m ss = .ok ds ss' → ds.length = n) : VE X K mg W (.Call (.Name x p) (e :: es) [] pos) (mRes g m) := by
  obtain ⟨t, a1, a2⟩ := ha.ex
  refine ⟨tCallS (spF K mg n g) (WE W) t, fun i => ?_, fun ω ss σ H Q rs q => a2 ω ss σ H _ rs ?_⟩
  · refine pe_g (k := j) (fd := fd) (ps := ps) (f := f) (by rw [C.eP i, C.ew i, C.eK i, C.em i, C.eb i]; exact F) ((C.rm i).mono hj) (C.gd i) (hg i) (by rw [C.em i]; exact hm) (by rw [C.eK i]; exact hk) (by rw [C.eK i]; exact hb) (fun σ => passAt (C.tk i) σ) (a1 i) hdb (he i) (hpl i)
  · exact seqE q fun ds ss1 ω1 H1 vs em rs1 fr1 rp1 q1 => res_go rs1 (by rw [rp1.length]; exact hlen _ _ _ em) rp1 q1
theorem mCons_len {m : SS → EO Dt} {n : SS → EO (List Dt)} {l : Nat} (h : ∀ ss ds ss', n ss = .ok ds ss' → ds.length = l) : ∀ ss ds ss', mCons m n ss = .ok ds ss' → ds.length = l + 1 := fun ss ds ss' e => by
  unfold mCons at e
  cases hm : m ss with
  | no => rw [hm] at e; cases e
  | exc c fs s' => rw [hm] at e; cases e
  | ok d s1 =>
    rw [hm] at e
    have e : ((n s1).bind fun ds ss => EO.ok (d :: ds) ss) = .ok ds ss' := e
    cases hn : n s1 with
    | no => rw [hn] at e; cases e
    | exc c fs s' => rw [hn] at e; cases e
    | ok ds' s2 =>
      rw [hn] at e
      cases e
      rw [List.length_cons, h _ _ _ hn]
theorem mNil_len : ∀ ss ds ss', mNil ss = .ok ds ss' → ds.length = 0 := fun ss ds ss' e => by cases e; rfl
/-- .. by keywords alone: the values come in the order that g gives them -/
def mResK (pm : List Dt → List Dt) (g : List Dt → Res Dt) (m : SS → EO (List Dt)) : SS → EO Dt := mRes (fun ds => g (pm ds)) m
structure VK' {ι : Type} (X : ι → Cx) (K : PySem.W.Frag) (mg : Str → Option Value) (W : WX) (kws : List Keyword) (m : SS → EO (List Dt)) : Prop where
  ex : ∃ t : TA, (∀ i, PK (X i) kws t) ∧ ∀ ω ss σ H Q, RS K ω ss σ H → EQg (RpL K) K mg W ω σ H (m ss) Q → t σ H Q
theorem k_nil : VK' X K mg W [] mNil := ⟨_, fun _ => pk_nil, fun ω ss σ H Q rs h => h ω H [] rs (.refl _ _) .nil⟩
theorem k_cons {kws : List Keyword} {nm : Option Str} {kpos : Pos} {m : SS → EO Dt} {n : SS → EO (List Dt)} (he : VE X K mg W e m) (hs : VK' X K mg W kws n) : VK' X K mg W (⟨nm, e, kpos⟩ :: kws) (mCons m n) := by
  obtain ⟨t, h1, h2⟩ := he.ex
  obtain ⟨u, g1, g2⟩ := hs.ex
  refine ⟨tCons t u, fun i => pk_cons (h1 i) (g1 i), fun ω ss σ H Q rs q => h2 ω ss σ H _ rs ?_⟩
  refine seqE q fun d ss1 ω1 H1 x _ rs1 fr1 rp1 q1 => g2 ω1 ss1 σ H1 _ rs1 ?_
  refine seqE q1 fun ds ss2 ω2 H2 xs _ rs2 fr2 rp2 q2 => ?_
  exact q2 ω2 H2 _ rs2 (.refl _ _) (.cons (Rp.mono fr2.fz _ _ rp1) rp2)
theorem v_callK {kws : List Keyword} {g : List Dt → Res Dt} {m : SS → EO (List Dt)} {gg : List Value → List Value → List Value} {gV : List V → List V → List V} {pm : List Dt → List Dt} (C : VC X k P w K mg base W) (F : FnG P w K mg base j f fd ps (spF K mg n g)) (hj : j ≤ k) (hg : ∀ i, Gl (X i) x) (hm : mg x = some (.ref f)) (hk : PySem.W.keepIn K (.ref f) = true)
    (hb : KBinds K fd ps ks gg gV) (ha : VK' X K mg W kws m) (hall : ∀ i, (backToKw pos (keywordEach kws (X i).env)).all (·.1.isSome) = true := by intro _; rfl) (hks : ∀ i, (backToKw pos (keywordEach kws (X i).env)).filterMap (·.1) = ks := by intro _; rfl)
    (hpm : ∀ F vs ds, RpA K F vs ds → ds.length = ks.length → (gV [] vs).length = n ∧ RpA K F (gV [] vs) (pm ds)) (hlen : ∀ ss ds ss', m ss = .ok ds ss' → ds.length = ks.length)
    (hdb : (x == ("__debug__" : Str)) = false := by decide) (hpl : ∀ i, ((backTo pos (starEach [] (X i).env)).any (·.1) || (backToKw pos (keywordEach kws (X i).env)).any (·.1.isNone)) = false := by intro _; rfl) :
    VE X K mg W (.Call (.Name x p) [] kws pos) (mResK pm g m) := by
  obtain ⟨t, a1, a2⟩ := ha.ex
  refine ⟨fun σ H Q => t σ H fun zs H1 => spF K mg n g (gV [] zs) H1 Q (WE W σ), fun i => ?_, fun ω ss σ H Q rs q => a2 ω ss σ H _ rs ?_⟩
  · exact pe_gk (k := j) (fd := fd) (ps := ps) (f := f) (by rw [C.eP i, C.ew i, C.eK i, C.em i, C.eb i]; exact F) ((C.rm i).mono hj) (C.gd i) (hg i) (by rw [C.em i]; exact hm) (by rw [C.eK i]; exact hk) (by rw [C.eK i]; exact hb) (fun σ => passAt (C.tk i) σ) (a1 i) (hall i) (hks i) hdb (hpl i)
  · exact seqE q fun ds ss1 ω1 H1 vs em rs1 fr1 rp1 q1 => by
      obtain ⟨l1, r1⟩ := hpm _ _ _ rp1 (hlen _ _ _ em)
      exact res_go rs1 l1 r1 q1
end

abbrev Dk : Type := List Int × Int × Int
def spD (K : PySem.W.Frag) (n : Nat) (f : Dk → List Dt → Res (Dt × Dk)) : Sp := fun vs H Q _ => ∃ (F : Hp) (a a2 : Addr) (q : List Int) (b c : Int) (vr : List V) (ds : List Dt), vs = .ref a :: vr ∧ vr.length + 1 = n ∧ Same F H ∧ F a = none ∧ F a2 = none ∧
  H a = some (WW.dk a2 b c) ∧ H a2 = some (.lst (q.map V.int)) ∧ RpA K F vr ds ∧ match f (q, b, c) ds with
  | .ok (d, (q', b', c')) => ∀ (F' H' : Hp) (x : V) (a3 : Addr), Same F F' → Same F' H' → F' a = none → F' a3 = none → (∀ y o, H y = some o → y ≠ a → y ≠ a2 → H' y = some o ∧ (F y = none → F' y = none ∧ y ≠ a3)) → (∀ y, H' y = none → H y = none) →
      H' a = some (WW.dk a3 b' c') → H' a3 = some (.lst (q'.map V.int)) → Rp K F' x d → Q x H'
  | _ => False
def startD (a : Addr) (N : List Str) (dk : Dk) (ds : List Dt) : SS := some (SV.dk a dk.1 dk.2.1 dk.2.2) :: (ds.map (fun d => some (SV.v d)) ++ List.replicate (N.length - (ds.length + 1)) none)
def dkAt (a : Addr) (ss : SS) : Option Dk := match ss[0]? with
  | some (some (SV.dk a' q b c)) => if a' = a then some (q, b, c) else none
  | _ => none
def outD (a : Addr) : SO → Res (Dt × Dk)
  | .rt d ss => match dkAt a ss with
    | some dk => .ok (d, dk)
    | none => .no
  | .nx ss => match dkAt a ss with
    | some dk => .ok (.none, dk)
    | none => .no
  | _ => .no
section
variable {P : Program} {w : World} {K : PySem.W.Frag} {mg : Str → Option Value} {base : Heap} {k : Nat} {f : Addr} {fd : FuncData} {N ps : List Str} {x qual : Str} {st : Stmt}
theorem dkAt_at {a : Addr} {ss : SS} {dk : Dk} (h : dkAt a ss = some dk) : ss[0]? = some (some (.dk a dk.1 dk.2.1 dk.2.2)) := by
  unfold dkAt at h
  split at h
  · split at h
    · rename_i e
      cases h
      subst e
      assumption
    · cases h
  · cases h
def om0 (F H : Hp) (a a2 : Addr) : Om := fun y => if y = a ∨ y = a2 then some 0 else if F y = none ∧ H y ≠ none then some 1000000 else none
theorem hid_om0 {F H : Hp} {a a2 : Addr} (h : Same F H) (ha : F a = none) (ha2 : F a2 = none) : hid (om0 F H a a2) H = F := by
  funext y
  unfold hid om0
  by_cases hy : y = a ∨ y = a2
  · rw [if_pos hy]
    rcases hy with rfl | rfl
    · exact ha.symm
    · exact ha2.symm
  · rw [if_neg hy]
    cases hF : F y with
    | some o => simp [h y o hF]
    | none =>
      cases hH : H y with
      | none => simp [hF, hH]
      | some o => simp [hF, hH]
/-- THE RULE for a def that draws -/
theorem fn_deck {m : SS → SO} {g : Dk → List Dt → Res (Dt × Dk)} (hw : w = WW.w) (F : Fun K x qual st f fd) (S : FnScope N ps (defScope st)) (hN : N.length ≤ 1000)
    (body : ∀ (cdv : Value) (A : Around) (outer : List Env) (s : Shared) (H : Hp) (E : XK), VC (fX P w K mg base N qual (defScope st) f cdv A outer s H E) k P w K mg base (WX0 E) → VSs (fX P w K mg base N qual (defScope st) f cdv A outer s H E) K mg (WX0 E) (defBody st) m)
    (hg : ∀ a dk ds, ds.length + 1 = ps.length → outD a (m (startD a N dk ds)) = g dk ds ∨ g dk ds = .no) :
    FnG P w K mg base (k + 1) f fd ps (spD K ps.length g) := by
  refine FnG.of F S (fun vs H Q E z => ?_) fun cdv A outer s H vs Q E hr hgd hsp => ?_
  · obtain ⟨_, _, _, _, _, _, _, _, rfl, h, _⟩ := z
    exact h
  · obtain ⟨F0, a, a2, q, b, c, vr, ds, rfl, hl, hF, ha, ha2, hHa, hHa2, rp, hq⟩ := hsp
    obtain ⟨t, t1, t2⟩ := (body cdv A outer s H E (VC.fn hw S.nd hr hgd)).ex
    have lds : ds.length + 1 = ps.length := by rw [← rp.length]; exact hl
    have hpl : ps.length ≤ N.length := by
      have := congrArg List.length S.pre
      rw [List.length_take] at this
      omega
    have hid0 := hid_om0 hF ha ha2
    have la : om0 F0 H a a2 a = some 0 := if_pos (.inl rfl)
    have la2 : om0 F0 H a a2 a2 = some 0 := if_pos (.inr rfl)
    refine ⟨t, t1 (), t2 (om0 F0 H a a2) (startD a N (q, b, c) ds) (L2.start N (.ref a :: vr)) H _ ⟨?_, ?_, fun y j hy => ?_, fun i sv hi => ?_⟩ ?_⟩
    · unfold startD L2.start
      simp only [List.length_append, List.length_map, List.length_replicate, List.length_cons, rp.length]
      omega
    · unfold L2.start
      simp only [List.length_append, List.length_map, List.length_replicate, List.length_cons]
      omega
    · unfold om0 at hy
      split at hy
      · rename_i hc
        rcases hc with rfl | rfl
        · rw [hHa]; rfl
        · rw [hHa2]; rfl
      · split at hy
        · rename_i hc
          exact Option.isSome_iff_ne_none.mpr hc.2
        · cases hy
    · cases i with
      | zero =>
        have e : SV.dk a q b c = sv := by
          have z : some (some (SV.dk a q b c)) = some (some sv) := hi
          cases z
          rfl
        subst e
        exact ⟨.ref a, rfl, rfl, la, a2, la2, hHa, hHa2⟩
      | succ i =>
        have hi : (ds.map (fun d => some (SV.v d)) ++ List.replicate (N.length - (ds.length + 1)) none)[i]? = some (some sv) := hi
        by_cases hlt : i < ds.length
        · rw [List.getElem?_append_left (by simpa using hlt), List.getElem?_map, List.getElem?_eq_getElem hlt] at hi
          cases hi
          obtain ⟨v, h2, h3⟩ := rp.get (List.getElem?_eq_getElem hlt)
          refine ⟨v, start_get (show (V.ref a :: vr)[i + 1]? = some v from h2), ?_⟩
          show Rp K (hid (om0 F0 H a a2) H) v _
          rw [hid0]
          exact h3
        · rw [List.getElem?_append_right (by simpa using hlt), List.getElem?_replicate] at hi
          split at hi <;> cases hi
    · have fin : ∀ {d : Dt} {ss' : SS} {q' : List Int} {b' c' : Int} {ω' : Om} {σ' : St} {H' : Hp} {v : V}, dkAt a ss' = some (q', b', c') → g (q, b, c) ds = .ok (d, (q', b', c')) → RS K ω' ss' σ' H' → Frm (om0 F0 H a a2) H ω' H' → Rp K (hid ω' H') v d → Q v H' := by
        intro d ss' q' b' c' ω' σ' H' v h1 h2 rs fr rv
        rw [h2] at hq
        obtain ⟨x0, _, rfl, e1, a3, e2, e3, e4⟩ := rs.sl 0 _ (dkAt_at h1)
        have fz := fr.fz
        rw [hid0] at fz
        refine hq (hid ω' H') H' v a3 fz hid_le (by unfold hid; rw [e1]) (by unfold hid; rw [e2]) (fun y o hy n1 n2 => ?_) fr.tr e3 e4 rv
        cases hFy : F0 y with
        | some o' =>
          have := hF y o' hFy
          rw [hy] at this
          cases this
          exact ⟨hid_le _ _ (fz y o hFy), fun z => nomatch z⟩
        | none =>
          have lab : om0 F0 H a a2 y = some 1000000 := by
            unfold om0
            rw [if_neg (fun z => z.elim n1 n2), if_pos ⟨hFy, by rw [hy]; exact fun z => nomatch z⟩]
          obtain ⟨g1, g2⟩ := fr.tp y 1000000 (by decide) lab
          refine ⟨g2.trans hy, fun _ => ⟨by unfold hid; rw [g1], fun z => ?_⟩⟩
          rw [z, e2] at g1
          cases g1
      have hg := hg a (q, b, c) ds lds
      cases hm : m (startD a N (q, b, c) ds) with
      | rt d ss' =>
        rw [hm] at hg
        intro ω' σ' H' v rs fr rv
        simp only [outD] at hg
        split at hg
        · rename_i dk h1
          rcases hg with hg | hg
          · exact fin h1 hg.symm rs fr rv
          · rw [hg] at hq; exact hq.elim
        · have hg : g (q, b, c) ds = .no := hg.elim (fun z => z.symm) id
          rw [hg] at hq
          exact hq.elim
      | nx ss' =>
        rw [hm] at hg
        intro ω' σ' H' rs fr
        simp only [outD] at hg
        split at hg
        · rename_i dk h1
          rcases hg with hg | hg
          · exact fin h1 hg.symm rs fr .non
          · rw [hg] at hq; exact hq.elim
        · have hg : g (q, b, c) ds = .no := hg.elim (fun z => z.symm) id
          rw [hg] at hq
          exact hq.elim
      | exc cc fs ss' =>
        rw [hm] at hg
        have hg : g (q, b, c) ds = .no := hg.elim (fun z => z.symm) id
        rw [hg] at hq
        exact hq.elim
      | bk ss' =>
        rw [hm] at hg
        have hg : g (q, b, c) ds = .no := hg.elim (fun z => z.symm) id
        rw [hg] at hq
        exact hq.elim
      | ct ss' =>
        rw [hm] at hg
        have hg : g (q, b, c) ds = .no := hg.elim (fun z => z.symm) id
        rw [hg] at hq
        exact hq.elim
      | no =>
        rw [hm] at hg
        have hg : g (q, b, c) ds = .no := hg.elim (fun z => z.symm) id
        rw [hg] at hq
        exact hq.elim
end
section
variable {ι : Type} {X : ι → Cx} {k : Nat} {P : Program} {w : World} {K : PySem.W.Frag} {mg : Str → Option Value} {base : Heap} {W : WX} {e a b c : Expr} {es : List Expr} {pos p : Pos} {j n : Nat} {f : Addr} {fd : FuncData} {ps ks : List Str} {x : Str}
def mDraw (i : Nat) (g : Dk → List Dt → Res (Dt × Dk)) (m : SS → EO (List Dt)) : SS → EO Dt := fun ss => match ss[i]? with
  | some (some (.dk _ _ _ _)) => (m ss).bind fun ds ss1 => match ss1[i]? with
    | some (some (.dk a q b c)) => match g (q, b, c) ds with
      | .ok (d, (q', b', c')) => .ok d (ss1.set i (some (.dk a q' b' c')))
      | _ => .no
    | _ => .no
  | _ => .no
theorem deck_go {i : Nat} {g : Dk → List Dt → Res (Dt × Dk)} {ω : Om} {ss : SS} {σ : St} {H : Hp} {da : Addr} {q : List Int} {b c : Int} {vs : List V} {ds : List Dt} {d : Dt} {q' : List Int} {b' c' : Int} {Q : VK} {E : XK} (rs : RS K ω ss σ H) (hi : ss[i]? = some (some (.dk da q b c))) (hl : vs.length + 1 = n) (rp : RpA K (hid ω H) vs ds)
    (hg : g (q, b, c) ds = .ok (d, (q', b', c'))) (hq : EQg (RpE K) K mg W ω σ H (.ok d (ss.set i (some (.dk da q' b' c')))) Q) : spD K n g (.ref da :: vs) H Q E := by
  obtain ⟨x0, hx, rfl, e1, a2, e2, e3, e4⟩ := rs.sl i _ hi
  refine ⟨hid ω H, da, a2, q, b, c, vs, ds, rfl, hl, hid_le, by unfold hid; rw [e1], by unfold hid; rw [e2], e3, e4, rp, ?_⟩
  rw [hg]
  intro F' H' v a3 sF sH z1 z3 kp tr w1 w2 rv
  have hil : i < σ.length := (List.getElem?_eq_some_iff.mp hx).1
  have hfew := rs.few
  obtain ⟨ω', ew⟩ : ∃ ω' : Om, ω' = fun y => if y = da ∨ y = a3 then some i else if y = a2 then none else ω y := ⟨_, rfl⟩
  have f1 : ω' da = some i := by rw [ew]; exact if_pos (.inl rfl)
  have f3 : ω' a3 = some i := by rw [ew]; exact if_pos (.inr rfl)
  have fo : ∀ y, y ≠ da → y ≠ a3 → y ≠ a2 → ω' y = ω y := fun y n1 n3 n2 => by
    rw [ew]
    show (if y = da ∨ y = a3 then some i else if y = a2 then none else ω y) = ω y
    rw [if_neg (fun z => z.elim n1 n3), if_neg n2]
  have f2 : ∀ y, y ≠ da → y ≠ a3 → y = a2 → ω' y = none := fun y n1 n3 n2 => by
    rw [ew]
    show (if y = da ∨ y = a3 then some i else if y = a2 then none else ω y) = none
    rw [if_neg (fun z => z.elim n1 n3), if_pos n2]
  have lab : ∀ y k', k' ≠ i → ω y = some k' → y ≠ da ∧ y ≠ a2 ∧ y ≠ a3 ∧ H' y = H y := fun y k' hk hy => by
    have n1 : y ≠ da := fun z => by rw [z, e1] at hy; exact hk (Option.some.inj hy).symm
    have n2 : y ≠ a2 := fun z => by rw [z, e2] at hy; exact hk (Option.some.inj hy).symm
    obtain ⟨o, ho⟩ := Option.isSome_iff_exists.mp (rs.own y k' hy)
    obtain ⟨g1, g2⟩ := kp y o ho n1 n2
    have hF : hid ω H y = none := by unfold hid; rw [hy]
    exact ⟨n1, n2, (g2 hF).2, g1.trans ho.symm⟩
  have fz : Same (hid ω H) (hid ω' H') := fun y o hy => by
    obtain ⟨g1, g2⟩ := hid_some hy
    have n1 : y ≠ da := fun z => by rw [z, e1] at g1; cases g1
    have n2 : y ≠ a2 := fun z => by rw [z, e2] at g1; cases g1
    have n3 : y ≠ a3 := fun z => by
      have := sF y o hy
      rw [z, z3] at this
      cases this
    rw [hid_of ((fo y n1 n3 n2).trans g1)]
    exact sH y o (sF y o hy)
  have fz' : Same F' (hid ω' H') := fun y o hy => by
    have n1 : y ≠ da := fun z => by rw [z, z1] at hy; cases hy
    have n3 : y ≠ a3 := fun z => by rw [z, z3] at hy; cases hy
    by_cases n2 : y = a2
    · rw [hid_of (f2 y n1 n3 n2)]
      exact sH y o hy
    · have zω : ω y = none := by
        cases hω : ω y with
        | none => rfl
        | some k' =>
          obtain ⟨o', ho'⟩ := Option.isSome_iff_exists.mp (rs.own y k' hω)
          have hF : hid ω H y = none := by unfold hid; rw [hω]
          have := ((kp y o' ho' n1 n2).2 hF).1
          rw [this] at hy
          cases hy
      rw [hid_of ((fo y n1 n3 n2).trans zω)]
      exact sH y o hy
  refine hq ω' H' v ⟨by rw [List.length_set]; exact rs.len, rs.few, fun y k' hy => ?_, fun l s hs => ?_⟩ ⟨fz, fun y k' hk hy => ?_, tr⟩ (Rp.mono fz' _ _ rv)
  · by_cases n1 : y = da
    · rw [n1, w1]; rfl
    · by_cases n3 : y = a3
      · rw [n3, w2]; rfl
      · by_cases n2 : y = a2
        · rw [f2 y n1 n3 n2] at hy; cases hy
        · rw [fo y n1 n3 n2] at hy
          cases hH : H' y with
          | some o => rfl
          | none =>
            have := rs.own y k' hy
            rw [tr y hH] at this
            cases this
  · by_cases hli : l = i
    · subst hli
      rw [List.getElem?_set_self (by rw [rs.len]; exact hil)] at hs
      cases hs
      exact ⟨_, hx, rfl, f1, a3, f3, w1, w2⟩
    · rw [List.getElem?_set_ne (Ne.symm hli)] at hs
      obtain ⟨y, q1, q2⟩ := rs.sl l s hs
      refine ⟨y, q1, q2.keep fz fun z hz => ?_⟩
      obtain ⟨n1, n2, n3, n4⟩ := lab z l hli hz
      exact ⟨(fo z n1 n3 n2).trans hz, n4⟩
  · obtain ⟨n1, n2, n3, n4⟩ := lab y k' (by omega) hy
    exact ⟨(fo y n1 n3 n2).trans hy, n4⟩
/-- f(deck, ..) -/
theorem v_draw (i : Nat) {y : Str} {py : Pos} {g : Dk → List Dt → Res (Dt × Dk)} {m : SS → EO (List Dt)} (C : VC X k P w K mg base W) (F : FnG P w K mg base j f fd ps (spD K n g)) (hj : j ≤ k) (hg : ∀ i, Gl (X i) x) (hm : mg x = some (.ref f)) (hk : PySem.W.keepIn K (.ref f) = true) (hb : Binds K fd ps [])
    (hN : ∀ l, (X l).N[i]? = some y) (hv : ∀ l, Vis (X l).env.scope y) (ha : VA X K mg W es m) (hlen : ∀ ss ds ss', m ss = .ok ds ss' → ds.length + 1 = n)
    (hd : (y == ("__debug__" : Str)) = false := by decide) (hcd : (y == ("__classdict__" : Str)) = false := by decide) (hdb : (x == ("__debug__" : Str)) = false := by decide) (he : ∀ l, starEach (.Name y py :: es) (X l).env = (false, eval (.Name y py) (X l).env) :: starEach es (X l).env := by intro _; rfl)
    (hpl : ∀ l, (backTo pos (starEach es (X l).env)).any (·.1) = false := by intro _; rfl) : VE X K mg W (.Call (.Name x p) (.Name y py :: es) [] pos) (mDraw i g m) := by
  obtain ⟨t, a1, a2⟩ := ha.ex
  refine ⟨tCallS (spD K n g) (WE W) (tCons (tVar i) t), fun l => ?_, fun ω ss σ H Q rs q => ?_⟩
  · exact pe_g (k := j) (fd := fd) (ps := ps) (f := f) (by rw [C.eP l, C.ew l, C.eK l, C.em l, C.eb l]; exact F) ((C.rm l).mono hj) (C.gd l) (hg l) (by rw [C.em l]; exact hm) (by rw [C.eK l]; exact hk) (by rw [C.eK l]; exact hb) (fun σ => passAt (C.tk l) σ) (pa_cons (pe_var (hN l) (hv l) hd hcd) (a1 l) (he l)) hdb (he l) (hpl l)
  · unfold mDraw at q
    split at q
    · rename_i da q0 b0 c0 hs0
      obtain ⟨x0, hx0, rfl, _⟩ := rs.sl i _ hs0
      refine ⟨_, hx0, a2 ω ss σ H _ rs (seqE q fun ds ss1 ω1 H1 vs em rs1 fr1 rp1 q1 => ?_)⟩
      split at q1
      · rename_i da1 q2 b2 c2 hs1
        obtain ⟨x1, hx1, rfl, _⟩ := rs1.sl i _ hs1
        rw [hx0] at hx1
        cases hx1
        split at q1
        · rename_i d q' b' c' hgg
          exact deck_go (mg := mg) (W := W) rs1 hs1 (by rw [rp1.length]; exact hlen _ _ _ em) rp1 hgg q1
        · exact q1.elim
      · exact q1.elim
    · exact q.elim
end
end VL

namespace VL
open PySem PySem.Spec L2
open PyProof.Rows hiding St
variable [WW]

inductive BorA (K : PySem.W.Frag) (ω : Om) (H : Hp) : List V → List Dt → Prop
  | nil : BorA K ω H [] []
  | cons {x : V} {xs : List V} {d : Dt} {ds : List Dt} : Bor K ω H x d → BorA K ω H xs ds → BorA K ω H (x :: xs) (d :: ds)
def opsGet (ss : SS) : List Opd → Option (List Dt)
  | [] => some []
  | o :: os => match o.get ss, opsGet ss os with
    | some d, some ds => some (d :: ds)
    | _, _ => none
theorem OpdA.bor {K : PySem.W.Frag} {ω : Om} {ss : SS} {σ : St} {H : Hp} (rs : RS K ω ss σ H) : ∀ {os : List Opd} {xs : List V} {ds : List Dt}, OpdA K σ ω H xs os → opsGet ss os = some ds → BorA K ω H xs ds
  | [], _, _, h, e => by
    cases h
    cases e
    exact .nil
  | o :: os, _, _, h, e => by
    cases h with
    | cons h1 h2 =>
      unfold opsGet at e
      split at e
      · rename_i d ds e1 e2
        cases e
        exact .cons (Opd.bor rs h1 e1) (OpdA.bor rs h2 e2)
      · cases e
/-- what a built-in function gives: data -/
structure BuS {ι : Type} (X : ι → Cx) (K : PySem.W.Frag) (u : Value) (f : List Dt → Option Dt) : Prop where
  ex : ∃ r : List V → Hp → VK → Prop, (∀ i, CallR (X i) u r) ∧ ∀ ω ss σ H xs ds z (Q : VK), RS K ω ss σ H → BorA K ω H xs ds → f ds = some z → (∀ H' v, Same H H' → Rp K (hid ω H') v z → Q v H') → r xs H Q
/-- .. a new list -/
structure OuS {ι : Type} (X : ι → Cx) (K : PySem.W.Frag) (u : Value) (f : List Dt → Option (List Dt)) : Prop where
  ex : ∃ r : List V → Hp → VK → Prop, (∀ i, CallR (X i) u r) ∧ ∀ ω H xs ds zs (Q : VK), BorA K ω H xs ds → f ds = some zs → (∀ p ys, H p = none → RpA K (hid ω H) ys zs → Q (.ref p) (upd H p (.lst ys))) → r xs H Q
def alt1 {α β : Type} (f g : α → Option β) : α → Option β := fun x => match f x with
  | some z => some z
  | none => g x
section
variable {ι : Type} {X : ι → Cx} {k : Nat} {P : Program} {w : World} {K : PySem.W.Frag} {mg : Str → Option Value} {base : Heap} {W : WX} {e a b c : Expr} {es : List Expr} {pos p : Pos} {x : Str}
theorem BuS.or {u : Value} {f g : List Dt → Option Dt} (h1 : BuS X K u f) (h2 : BuS X K u g) : BuS X K u (alt1 f g) := by
  obtain ⟨r, a1, a2⟩ := h1.ex
  obtain ⟨v, b1, b2⟩ := h2.ex
  refine ⟨_, fun i => (a1 i).or (b1 i), fun ω ss σ H xs ds z Q rs bx hf q => ?_⟩
  unfold alt1 at hf
  cases hz : f ds with
  | some z' =>
    rw [hz] at hf
    cases hf
    exact .inl (a2 ω ss σ H xs ds _ Q rs bx hz q)
  | none =>
    rw [hz] at hf
    exact .inr (b2 ω ss σ H xs ds z Q rs bx hf q)
def mBu (f : List Dt → Option Dt) (m : SS → EO (List Opd)) : SS → EO Dt := fun ss => (m ss).bind fun os ss => .lift ((opsGet ss os).bind f) ss
theorem bu_go {u : Value} {f : List Dt → Option Dt} {m : SS → EO (List Opd)} (h : BuS X K u f) (ha : VBs X K mg W (e :: es) m) : ∃ (r : List V → Hp → VK → Prop) (t : TA), (∀ i, CallR (X i) u r) ∧ (∀ i, PA (X i) (e :: es) t) ∧ ∀ ω ss σ H Q, RS K ω ss σ H → EQg (RpE K) K mg W ω σ H (mBu f m ss) Q → tCB r t σ H Q := by
  obtain ⟨r, a1, a2⟩ := h.ex
  obtain ⟨t, b1, b2⟩ := ha.ex
  refine ⟨r, t, a1, b1, fun ω ss σ H Q rs q => b2 ω ss σ H _ rs ?_⟩
  refine seqE q fun os ss1 ω1 H1 xs _ rs1 fr1 rp1 q1 => ?_
  obtain ⟨z, hz, q1⟩ := lift_get q1
  obtain ⟨ds, h1, h2⟩ := Option.bind_eq_some_iff.mp hz
  exact a2 ω1 ss1 σ H1 xs ds z _ rs1 (OpdA.bor rs1 rp1 h1) h2 fun H' v hs hv => q1 ω1 H' v (rs1.grow hs) (.grow hs rs1.own) hv
theorem v_bu {id : String} {f : List Dt → Option Dt} {m : SS → EO (List Opd)} (C : VC X k P w K mg base W) (h : BuS X K (.builtin id) f) (ha : VBs X K mg W (e :: es) m) (hg : ∀ i, Gl (X i) x) (hm : mg x = none) (hv : bootBuiltins x = some (.builtin id)) (hn : x ≠ "__name__" := by decide) (hdb : (x == ("__debug__" : Str)) = false := by decide)
    (he : ∀ i, starEach (e :: es) (X i).env = (false, eval e (X i).env) :: starEach es (X i).env := by intro _; rfl) (hpl : ∀ i, (backTo pos (starEach es (X i).env)).any (·.1) = false := by intro _; rfl) : VE X K mg W (.Call (.Name x p) (e :: es) [] pos) (mBu f m) := by
  obtain ⟨r, t, a1, b1, g⟩ := bu_go h ha
  exact ⟨_, fun i => pe_callB (a1 i) (hg i) (by rw [C.em i]; exact hm) hv (b1 i) hn hdb (he i) (hpl i), g⟩
theorem v_buT {T : String} {f : List Dt → Option Dt} {m : SS → EO (List Opd)} (C : VC X k P w K mg base W) (h : BuS X K (.type T) f) (ha : VBs X K mg W (e :: es) m) (hg : ∀ i, Gl (X i) x) (hm : mg x = none) (hv : bootBuiltins x = some (.type T)) (hn : x ≠ "__name__" := by decide) (hdb : (x == ("__debug__" : Str)) = false := by decide)
    (he : ∀ i, starEach (e :: es) (X i).env = (false, eval e (X i).env) :: starEach es (X i).env := by intro _; rfl) (hpl : ∀ i, (backTo pos (starEach es (X i).env)).any (·.1) = false := by intro _; rfl) : VE X K mg W (.Call (.Name x p) (e :: es) [] pos) (mBu f m) := by
  obtain ⟨r, t, a1, b1, g⟩ := bu_go h ha
  exact ⟨_, fun i => pe_callTy (a1 i) (hg i) (by rw [C.em i]; exact hm) hv (b1 i) hn hdb (he i) (hpl i), g⟩
def mOu (f : List Dt → Option (List Dt)) (m : SS → EO (List Opd)) : SS → EO Dt := fun ss => (m ss).bind fun os ss => .lift (((opsGet ss os).bind f).map .list) ss
theorem ou_go {u : Value} {f : List Dt → Option (List Dt)} {m : SS → EO (List Opd)} (h : OuS X K u f) (ha : VBs X K mg W (e :: es) m) : ∃ (r : List V → Hp → VK → Prop) (t : TA), (∀ i, CallR (X i) u r) ∧ (∀ i, PA (X i) (e :: es) t) ∧
    ∀ k ω ss σ H Q, 1000 ≤ k → RS K ω ss σ H → EQg (NewR K H k) K mg W ω σ H (mOu f m ss) Q → tCB r t σ H Q := by
  obtain ⟨r, a1, a2⟩ := h.ex
  obtain ⟨t, b1, b2⟩ := ha.ex
  refine ⟨r, t, a1, b1, fun k ω ss σ H Q hk rs q => b2 ω ss σ H _ rs ?_⟩
  refine seqE (R2 := NewR K H k) q fun os ss1 ω1 H1 xs _ rs1 fr1 rp1 q1 => ?_
  obtain ⟨z, hz, q1⟩ := lift_get q1
  obtain ⟨zs, hz2, rfl⟩ := Option.map_eq_some_iff.mp hz
  obtain ⟨ds, h1, h2⟩ := Option.bind_eq_some_iff.mp hz2
  refine a2 ω1 H1 xs ds zs _ (OpdA.bor rs1 rp1 h1) h2 fun p ys hp hy => ?_
  obtain ⟨ω2, w1, rs2, fr2, hs2⟩ := rs1.new (o := .lst ys) hk hp
  exact q1 ω2 _ _ rs2 fr2 ⟨p, rfl, fr1.tr p hp, w1, .inl ⟨_, _, rfl, upd_same, RpA.mono hs2 _ _ hy⟩⟩
theorem o_bu {id : String} {f : List Dt → Option (List Dt)} {m : SS → EO (List Opd)} (C : VC X k P w K mg base W) (h : OuS X K (.builtin id) f) (ha : VBs X K mg W (e :: es) m) (hg : ∀ i, Gl (X i) x) (hm : mg x = none) (hv : bootBuiltins x = some (.builtin id)) (hn : x ≠ "__name__" := by decide) (hdb : (x == ("__debug__" : Str)) = false := by decide)
    (he : ∀ i, starEach (e :: es) (X i).env = (false, eval e (X i).env) :: starEach es (X i).env := by intro _; rfl) (hpl : ∀ i, (backTo pos (starEach es (X i).env)).any (·.1) = false := by intro _; rfl) : VO X K mg W (.Call (.Name x p) (e :: es) [] pos) (mOu f m) := by
  obtain ⟨r, t, a1, b1, g⟩ := ou_go h ha
  exact ⟨_, fun i => pe_callB (a1 i) (hg i) (by rw [C.em i]; exact hm) hv (b1 i) hn hdb (he i) (hpl i), g⟩
theorem o_buT {T : String} {f : List Dt → Option (List Dt)} {m : SS → EO (List Opd)} (C : VC X k P w K mg base W) (h : OuS X K (.type T) f) (ha : VBs X K mg W (e :: es) m) (hg : ∀ i, Gl (X i) x) (hm : mg x = none) (hv : bootBuiltins x = some (.type T)) (hn : x ≠ "__name__" := by decide) (hdb : (x == ("__debug__" : Str)) = false := by decide)
    (he : ∀ i, starEach (e :: es) (X i).env = (false, eval e (X i).env) :: starEach es (X i).env := by intro _; rfl) (hpl : ∀ i, (backTo pos (starEach es (X i).env)).any (·.1) = false := by intro _; rfl) : VO X K mg W (.Call (.Name x p) (e :: es) [] pos) (mOu f m) := by
  obtain ⟨r, t, a1, b1, g⟩ := ou_go h ha
  exact ⟨_, fun i => pe_callTy (a1 i) (hg i) (by rw [C.em i]; exact hm) hv (b1 i) hn hdb (he i) (hpl i), g⟩

theorem bor1 {ω : Om} {H : Hp} {xs : List V} {d : Dt} (h : BorA K ω H xs [d]) : ∃ x, xs = [x] ∧ Bor K ω H x d := by
  cases h with
  | cons h1 h2 => cases h2; exact ⟨_, rfl, h1⟩
theorem bor2 {ω : Om} {H : Hp} {xs : List V} {d d' : Dt} (h : BorA K ω H xs [d, d']) : ∃ x y, xs = [x, y] ∧ Bor K ω H x d ∧ Bor K ω H y d' := by
  cases h with
  | cons h1 h2 =>
    obtain ⟨y, rfl, h3⟩ := bor1 h2
    exact ⟨_, _, rfl, h1, h3⟩
def fLen : List Dt → Option Dt
  | [.str z] => if z.length ≤ sizeLine then some (.int z.length) else none
  | [.list ds] => some (.int ds.length)
  | [.tuple ds] => some (.int ds.length)
  | _ => none
theorem u_len (C : VC X k P w K mg base W) : BuS X K (.builtin "len") fLen := by
  refine ⟨fun xs H Q => ∃ x n, xs = [x] ∧ LenV K x H n ∧ Q (.int n) H, fun i => by rw [← C.eK i]; exact call_len, fun ω ss σ H xs ds z Q rs bx hf q => ?_⟩
  unfold fLen at hf
  split at hf
  · split at hf
    · rename_i hz
      cases hf
      obtain ⟨x, rfl, b1⟩ := bor1 bx
      have h1 := b1.rp
      cases h1
      exact ⟨_, _, rfl, ⟨hz, rfl⟩, q H _ (Same.refl _) (.int _)⟩
    · cases hf
  · cases hf
    obtain ⟨x, rfl, b1⟩ := bor1 bx
    obtain ⟨a, ys, rfl, h1, h2⟩ := bor_lst b1
    exact ⟨_, _, rfl, .inl ⟨_, .of h1, rfl⟩, q H _ (Same.refl _) (by rw [h2.length]; exact .int _)⟩
  · cases hf
    obtain ⟨x, rfl, b1⟩ := bor1 bx
    obtain ⟨a, ys, rfl, h1, h2⟩ := bor_tup b1
    exact ⟨_, _, rfl, .inr ⟨_, sqT_mono hid_le h1, rfl⟩, q H _ (Same.refl _) (by rw [h2.length]; exact .int _)⟩
  · cases hf
def fLenD : List Dt → Option Dt
  | [.dict ds] => if isK ds = true then some (.int ds.length) else none
  | _ => none
theorem RpK.length {H : Hp} : ∀ {ds : List (Dt × Dt)} {xs : List (Key × V)}, RpK K H xs ds → xs.length = ds.length
  | [], _, h => by cases h; rfl
  | (_, d) :: ds, _, h => by
    cases h with
    | cons h1 h2 => simp [RpK.length h2]
theorem bor_dct {ω : Om} {H : Hp} {x : V} {ds : List (Dt × Dt)} (h : Bor K ω H x (.dict ds)) (hk : isK ds = true) : ∃ a xs, x = .ref a ∧ H a = some (.dK xs) ∧ RpK K (hid ω H) xs ds := by
  rcases h with h | ⟨a, rfl, h⟩
  · cases h with
    | dK h1 h2 => exact ⟨_, _, rfl, hid_le _ _ h1, h2⟩
    | dN h1 hn h2 => rw [h2.isK hn] at hk; cases hk
    | ob h1 h2 => cases hk
  · rcases h with ⟨ds, xs, e, h2, h3⟩ | ⟨ds, xs, e, h2, h3⟩ | ⟨ds, xs, e, h2, hn, h3⟩ | ⟨c, dx, fs, ds, e, _⟩
    · cases e
    · cases e
      exact ⟨_, _, rfl, h2, h3⟩
    · cases e
      rw [h3.isK hn] at hk
      cases hk
    · cases e
      cases hk
theorem u_lenD : BuS X K (.builtin "len") fLenD := by
  refine ⟨_, fun i => call_lenD, fun ω ss σ H xs ds z Q rs bx hf q => ?_⟩
  unfold fLenD at hf
  split at hf
  · split at hf
    · rename_i hk
      cases hf
      obtain ⟨x, rfl, b1⟩ := bor1 bx
      obtain ⟨a, ys, rfl, h1, h2⟩ := bor_dct b1 hk
      exact ⟨_, _, rfl, h1, q H _ (Same.refl _) (by rw [h2.length]; exact .int _)⟩
    · cases hf
  · cases hf
def fInt1 : List Dt → Option Dt
  | [.int i] => some (.int i)
  | [.bool b] => some (.int (if b then 1 else 0))
  | _ => none
theorem u_int1 : BuS X K (.type "int") fInt1 := by
  refine ⟨_, fun i => call_int1, fun ω ss σ H xs ds z Q rs bx hf q => ?_⟩
  unfold fInt1 at hf
  split at hf
  · cases hf
    obtain ⟨x, rfl, b1⟩ := bor1 bx
    have h1 := b1.rp
    cases h1
    exact .inl ⟨_, rfl, q H _ (Same.refl _) (.int _)⟩
  · cases hf
    obtain ⟨x, rfl, b1⟩ := bor1 bx
    have h1 := b1.rp
    cases h1
    exact .inr ⟨_, rfl, q H _ (Same.refl _) (.int _)⟩
  · cases hf
def fMax2 : List Dt → Option Dt
  | [.int i, .int j] => some (.int (if j > i then j else i))
  | _ => none
def fMin2 : List Dt → Option Dt
  | [.int i, .int j] => some (.int (if j < i then j else i))
  | _ => none
theorem u_max2 (C : VC X k P w K mg base W) : BuS X K (.builtin "max") fMax2 := by
  refine ⟨_, fun i => call_max2 (C.ca i), fun ω ss σ H xs ds z Q rs bx hf q => ?_⟩
  unfold fMax2 at hf
  split at hf
  · cases hf
    obtain ⟨x, y, rfl, b1, b2⟩ := bor2 bx
    have h1 := b1.rp
    have h2 := b2.rp
    cases h1
    cases h2
    exact ⟨_, _, rfl, q H _ (Same.refl _) (.int _)⟩
  · cases hf
theorem u_min2 (C : VC X k P w K mg base W) : BuS X K (.builtin "min") fMin2 := by
  refine ⟨_, fun i => call_min2 (C.ca i), fun ω ss σ H xs ds z Q rs bx hf q => ?_⟩
  unfold fMin2 at hf
  split at hf
  · cases hf
    obtain ⟨x, y, rfl, b1, b2⟩ := bor2 bx
    have h1 := b1.rp
    have h2 := b2.rp
    cases h1
    cases h2
    exact ⟨_, _, rfl, q H _ (Same.refl _) (.int _)⟩
  · cases hf
def boolsD : List Dt → Option (List Bool)
  | [] => some []
  | .bool z :: ds => (boolsD ds).map (z :: ·)
  | _ :: _ => none
theorem rpa_bools {H : Hp} : ∀ {ds : List Dt} {xs : List V} {bs : List Bool}, RpA K H xs ds → boolsD ds = some bs → xs = bs.map V.bl
  | [], _, _, h, e => by cases h; cases e; rfl
  | d :: ds, _, _, h, e => by
    cases h with
    | cons h1 h2 =>
      cases d with
      | bool z =>
        obtain ⟨bs', e1, rfl⟩ := Option.map_eq_some_iff.mp (show (boolsD ds).map (z :: ·) = some _ from e)
        cases h1
        rw [rpa_bools h2 e1]
        rfl
      | _ => cases e
def fAll : List Dt → Option Dt
  | [.list ds] => (boolsD ds).map fun bs => .bool (bs.all id)
  | _ => none
def fAny : List Dt → Option Dt
  | [.list ds] => (boolsD ds).map fun bs => .bool (bs.any id)
  | _ => none
theorem u_all (C : VC X k P w K mg base W) : BuS X K (.builtin "all") fAll := by
  refine ⟨rAll K, fun i => by rw [← C.eK i]; exact cr_all (C.ca i), fun ω ss σ H xs ds z Q rs bx hf q => ?_⟩
  unfold fAll at hf
  split at hf
  · obtain ⟨bs, e1, rfl⟩ := Option.map_eq_some_iff.mp hf
    obtain ⟨x, rfl, b1⟩ := bor1 bx
    obtain ⟨a, ys, rfl, h1, h2⟩ := bor_lst b1
    have e2 := rpa_bools h2 e1
    subst e2
    exact ⟨_, _, rfl, .of h1, q H _ (Same.refl _) (.bl _)⟩
  · cases hf
theorem u_any (C : VC X k P w K mg base W) : BuS X K (.builtin "any") fAny := by
  refine ⟨rAny K, fun i => by rw [← C.eK i]; exact cr_any (C.ca i), fun ω ss σ H xs ds z Q rs bx hf q => ?_⟩
  unfold fAny at hf
  split at hf
  · obtain ⟨bs, e1, rfl⟩ := Option.map_eq_some_iff.mp hf
    obtain ⟨x, rfl, b1⟩ := bor1 bx
    obtain ⟨a, ys, rfl, h1, h2⟩ := bor_lst b1
    have e2 := rpa_bools h2 e1
    subst e2
    exact ⟨_, _, rfl, .of h1, q H _ (Same.refl _) (.bl _)⟩
  · cases hf
/-- tuple(list), tuple(tuple) -/
def fTup : List Dt → Option Dt
  | [.list ds] => some (.tuple ds)
  | [.tuple ds] => some (.tuple ds)
  | _ => none
theorem u_tuple (C : VC X k P w K mg base W) : BuS X K (.type "tuple") fTup := by
  refine ⟨fun xs H Q => ∃ p ys, xs = [V.ref p] ∧ ((SqL K H p ys ∧ ∀ l, H l = none → Q (.ref l) (upd H l (.tup ys))) ∨ (SqT K H p ys ∧ Q (.ref p) H)), fun i => by rw [← C.eK i]; exact call_tuple_of, fun ω ss σ H xs ds z Q rs bx hf q => ?_⟩
  unfold fTup at hf
  split at hf
  · cases hf
    obtain ⟨x, rfl, b1⟩ := bor1 bx
    obtain ⟨a, ys, rfl, h1, h2⟩ := bor_lst b1
    refine ⟨_, _, rfl, .inl ⟨.of h1, fun l hl => ?_⟩⟩
    obtain ⟨n1, n2⟩ := new_tup rs hl h2
    exact q _ _ n1 n2
  · cases hf
    obtain ⟨x, rfl, b1⟩ := bor1 bx
    obtain ⟨a, ys, rfl, h1, h2⟩ := bor_tup b1
    exact ⟨_, _, rfl, .inr ⟨sqT_mono hid_le h1, q H _ (Same.refl _) (.tup h1 h2)⟩⟩
  · cases hf
def fList : List Dt → Option (List Dt)
  | [.list ds] => some ds
  | [.tuple ds] => some ds
  | _ => none
theorem u_list (C : VC X k P w K mg base W) : OuS X K (.type "list") fList := by
  refine ⟨fun xs H Q => ∃ p ys, xs = [V.ref p] ∧ (SqL K H p ys ∨ SqT K H p ys) ∧ ∀ l, H l = none → Q (.ref l) (upd H l (.lst ys)), fun i => by rw [← C.eK i]; exact call_list_of, fun ω H xs ds z Q bx hf q => ?_⟩
  unfold fList at hf
  split at hf
  · cases hf
    obtain ⟨x, rfl, b1⟩ := bor1 bx
    obtain ⟨a, ys, rfl, h1, h2⟩ := bor_lst b1
    exact ⟨_, _, rfl, .inl (.of h1), fun l hl => q l ys hl h2⟩
  · cases hf
    obtain ⟨x, rfl, b1⟩ := bor1 bx
    obtain ⟨a, ys, rfl, h1, h2⟩ := bor_tup b1
    exact ⟨_, _, rfl, .inr (sqT_mono hid_le h1), fun l hl => q l ys hl h2⟩
  · cases hf

def tyName : Dt → String
  | .none => "NoneType" | .bool _ => "bool" | .int _ => "int" | .str _ => "str" | .list _ => "list" | .tuple _ => "tuple" | .dict _ => "dict"
/-- no instance, no dict with tuples as keys -/
def plain1 : Dt → Bool
  | .dict ds => isK ds
  | _ => true
def fIsi (T : String) (d : Dt) : Option Bool := if plain1 d = true then kitB (tyName d) T else none
theorem tyx_of {H : Hp} {x : V} {d : Dt} (h : Rp K H x d) (hp : plain1 d = true) : TyX K H x (.type (tyName d)) := by
  cases h with
  | non => exact .base .non
  | bl z => exact .base (.bl z)
  | int i => exact .base (.int i)
  | str z => exact .base (.str z)
  | lst h1 h2 => exact .base (.lst h1)
  | tup h1 h2 =>
    rcases h1 with (h1 | ⟨o, h1⟩) | ⟨o, its, n, h1, h3, _⟩
    · exact .base (.tup h1)
    · exact .fTuple h1
    · exact .kTuple h1 h3
  | dK h1 h2 => exact .base (.dK h1)
  | dN h1 hn h2 =>
    have hp : isK _ = true := hp
    rw [h2.isK hn] at hp
    cases hp
  | ob h1 h2 => cases hp
def mIsi (T : String) (m : SS → EO Opd) : SS → EO Dt := fun ss => (m ss).bind fun o ss => .lift (((o.get ss).bind (fIsi T)).map .bool) ss
theorem v_isi (C : VC X k P w K mg base W) {T : String} {Tn : Str} {p1 p2 : Pos} {m : SS → EO Opd} (h : VB X K mg W a m) (hg : ∀ i, Gl (X i) "isinstance") (hm : mg "isinstance" = none) (hgT : ∀ i, Gl (X i) Tn) (hmT : mg Tn = none) (hvT : bootBuiltins Tn = some (.type T)) (hn : Tn ≠ "__name__" := by decide) (hdb : (Tn == ("__debug__" : Str)) = false := by decide)
    (he : ∀ i, starEach [a, .Name Tn p2] (X i).env = (false, eval a (X i).env) :: starEach [.Name Tn p2] (X i).env := by intro _; rfl) (he2 : ∀ i, starEach [.Name Tn p2] (X i).env = (false, eval (.Name Tn p2) (X i).env) :: starEach [] (X i).env := by intro _; rfl) (hpl : ∀ i, (backTo pos (starEach [.Name Tn p2] (X i).env)).any (·.1) = false := by intro _; rfl) :
    VE X K mg W (.Call (.Name "isinstance" p1) [a, .Name Tn p2] [] pos) (mIsi T m) := by
  obtain ⟨t, a1, a2⟩ := h.ex
  refine ⟨tCB (rIsi K) (tCons t (tCons (tC (.ty T)) tNil)), fun i => ?_, fun ω ss σ H Q rs q => a2 ω ss σ H _ rs ?_⟩
  · rw [← C.eK i]
    exact pe_callB call_isi (hg i) (by rw [C.em i]; exact hm) PyProof.Rows.boot_isinstance (pa_cons (a1 i) (pa_cons (pe_bltn (hgT i) (by rw [C.em i]; exact hmT) hvT rfl hn hdb) pa_nil (he2 i)) (he i)) (by decide) (by decide) (he i) (hpl i)
  · refine seqE q fun o ss1 ω1 H1 y _ rs1 fr1 rp1 q1 => ?_
    obtain ⟨z, hz, q1⟩ := lift_get q1
    obtain ⟨z', hz2, rfl⟩ := Option.map_eq_some_iff.mp hz
    obtain ⟨d, h1, h2⟩ := Option.bind_eq_some_iff.mp hz2
    unfold fIsi at h2
    split at h2
    case isFalse => cases h2
    rename_i hp
    exact ⟨_, _, _, _, _, rfl, .ty T, tyx_of (Opd.bor rs1 rp1 h1).rp hp, kit_ty h2, q1 ω1 H1 _ rs1 (.refl _ _) (.bl _)⟩
end
end VL

namespace VL
open PySem PySem.Spec L2
open PyProof.Rows hiding St
variable [WW]

section
variable {ι : Type} {X : ι → Cx} {k : Nat} {P : Program} {w : World} {K : PySem.W.Frag} {mg : Str → Option Value} {base : Heap} {W : WX} {e a b c : Expr} {es : List Expr} {pos p : Pos} {x : Str}

def signD (c : Nat) : Dt := .str ⟨#[c]⟩
def fIx : Dt → Dt → Option Dt := fun d i => match d, i with
  | .list ds, .int i => atI ds i
  | .tuple ds, .int i => atI ds i
  | .str z, .int i => if z.length ≤ sizeLine then (atI z.cps.toList i).map signD else none
  | _, _ => none
theorem rpa_at {H : Hp} {ds : List Dt} {xs : List V} {i : Int} {d : Dt} (h : RpA K H xs ds) (e : atI ds i = some d) : ∃ y, atI xs i = some y ∧ Rp K H y d := by
  unfold atI at e ⊢
  rw [h.length]
  obtain ⟨j, e1, e2⟩ := Option.bind_eq_some_iff.mp e
  obtain ⟨y, h1, h2⟩ := h.get e2
  exact ⟨y, Option.bind_eq_some_iff.mpr ⟨j, e1, h1⟩, h2⟩
theorem v_ix (C : VC X k P w K mg base W) {m n : SS → EO Opd} (hm : VB X K mg W a m) (hn : VB X K mg W b n) (hs : PlainIx b := by exact fun _ _ => rfl) : VE X K mg W (.Subscript a b pos) (mBin fIx m n) := by
  obtain ⟨t, h1, h2⟩ := hm.ex
  obtain ⟨u, g1, g2⟩ := hn.ex
  refine ⟨tOp (rIx K) t u, fun i => by rw [← C.eK i]; exact pe_ix ix_seq (h1 i) (g1 i) hs, fun ω ss σ H Q rs q => h2 ω ss σ H _ rs ?_⟩
  refine seqE q fun o ss1 ω1 H1 x _ rs1 fr1 rp1 q1 => g2 ω1 ss1 σ H1 _ rs1 ?_
  refine seqE q1 fun p ss2 ω2 H2 y _ rs2 fr2 rp2 q2 => ?_
  obtain ⟨z, hz, q2⟩ := lift_get q2
  obtain ⟨d, e, e1, e2, e3⟩ := two_some hz
  have bx := Opd.bor rs2 (rp1.go fr2) e1
  have by' := (Opd.bor rs2 rp2 e2).rp
  unfold fIx at e3
  split at e3
  · cases by'
    obtain ⟨p, xs, rfl, w1, w2⟩ := bor_lst bx
    obtain ⟨v, v1, v2⟩ := rpa_at w2 e3
    exact .inl ⟨p, xs, _, v, rfl, rfl, .of w1, v1, q2 ω2 H2 v rs2 (.refl _ _) v2⟩
  · cases by'
    obtain ⟨p, xs, rfl, w1, w2⟩ := bor_tup bx
    obtain ⟨v, v1, v2⟩ := rpa_at w2 e3
    exact .inr (.inl ⟨p, xs, _, v, rfl, rfl, sqT_mono hid_le w1, v1, q2 ω2 H2 v rs2 (.refl _ _) v2⟩)
  · split at e3
    · rename_i hl
      obtain ⟨cc, c1, rfl⟩ := Option.map_eq_some_iff.mp e3
      have bx := bx.rp
      cases bx
      cases by'
      exact .inr (.inr ⟨_, _, cc, rfl, rfl, hl, c1, q2 ω2 H2 _ rs2 (.refl _ _) (.str _)⟩)
    · cases e3
  · cases e3

structure VP {ι : Type} (X : ι → Cx) (K : PySem.W.Frag) (mg : Str → Option Value) (W : WX) (e : Option Expr) (m : SS → EO (Option Int)) : Prop where
  ex : ∃ t : TO, (∀ i, PO (X i) e t) ∧ ∀ ω ss σ H Q, RS K ω ss σ H → EQg (fun _ _ (o : Option Int) d => o = d) K mg W ω σ H (m ss) Q → t σ H Q
def mPart0 : SS → EO (Option Int) := fun ss => .ok none ss
def mPart (m : SS → EO Dt) : SS → EO (Option Int) := fun ss => (m ss).bind fun d ss => match d with
  | .int i => .ok (some i) ss
  | _ => .no
theorem p_none : VP X K mg W none mPart0 := ⟨_, fun _ => po_none, fun ω ss σ H Q rs q => q ω H none rs (.refl _ _) rfl⟩
theorem p_some {m : SS → EO Dt} (h : VE X K mg W e m) : VP X K mg W (some e) (mPart m) := by
  obtain ⟨t, h1, h2⟩ := h.ex
  refine ⟨_, fun i => po_some (h1 i), fun ω ss σ H Q rs q => h2 ω ss σ H _ rs ?_⟩
  refine seqE (R2 := fun _ _ (o : Option Int) d => o = d) q fun d ss1 ω1 H1 x _ rs1 fr1 rp1 q1 => ?_
  cases rp1 with
  | int i => exact ⟨i, rfl, q1 ω1 H1 _ rs1 (.refl _ _) rfl⟩
  | _ => exact q1.elim
def cutG {α : Type} (xs : List α) (lo hi : Option Int) : List α := (xs.drop (HT.sIx xs.length 0 lo)).take (HT.sIx xs.length xs.length hi - HT.sIx xs.length 0 lo)
theorem rpa_cut {H : Hp} {ds : List Dt} {xs : List V} {lo hi : Option Int} (h : RpA K H xs ds) : RpA K H (cutV xs lo hi) (cutG ds lo hi) := by
  unfold cutV cutG
  rw [h.length]
  exact (h.drop _).take _
def fSl : Dt → Option Int → Option Int → Option Dt := fun d lo hi => match d with
  | .list ds => some (.list (cutG ds lo hi))
  | .tuple ds => some (.tuple (cutG ds lo hi))
  | .str z => if z.length ≤ sizeLine then some (.str (cutS z lo hi)) else none
  | _ => none
def mSl (m : SS → EO Opd) (l h : SS → EO (Option Int)) : SS → EO Dt := fun ss => (m ss).bind fun o ss => (l ss).bind fun lo ss => (h ss).bind fun hi ss => .lift ((o.get ss).bind fun d => fSl d lo hi) ss
def rSlQ (K : PySem.W.Frag) : V → Option Int → Option Int → Hp → VK → Prop := fun x lo hi H Q => rSlL K x lo hi H Q ∨ rSlA K x lo hi H Q ∨ rSlS x lo hi H Q
theorem sl_q {Y : Cx} : L2.SlR Y (rSlQ Y.K) := sl_list.or (sl_tupA.or sl_str)
theorem cut_whole {α : Type} {xs : List α} {lo hi : Option Int} (h : HT.sIx xs.length 0 lo = 0 ∧ HT.sIx xs.length xs.length hi = xs.length) : cutG xs lo hi = xs := by
  unfold cutG
  rw [h.1, h.2]
  simp
theorem v_slice (C : VC X k P w K mg base W) {lo hi : Option Expr} {p2 : Pos} {m : SS → EO Opd} {l h : SS → EO (Option Int)} (hm : VB X K mg W a m) (hl : VP X K mg W lo l) (hh : VP X K mg W hi h) : VE X K mg W (.Subscript a (.Slice lo hi none p2) pos) (mSl m l h) := by
  obtain ⟨t, a1, a2⟩ := hm.ex
  obtain ⟨tl, b1, b2⟩ := hl.ex
  obtain ⟨th, c1, c2⟩ := hh.ex
  refine ⟨tSl (rSlQ K) t tl th, fun i => by rw [← C.eK i]; exact pe_slice sl_q (a1 i) (b1 i) (c1 i), fun ω ss σ H Q rs q => a2 ω ss σ H _ rs ?_⟩
  refine seqE q fun o ss1 ω1 H1 x _ rs1 fr1 rp1 q1 => b2 ω1 ss1 σ H1 _ rs1 ?_
  refine seqE q1 fun lo' ss2 ω2 H2 y _ rs2 fr2 ey q2 => c2 ω2 ss2 σ H2 _ rs2 ?_
  refine seqE q2 fun hi' ss3 ω3 H3 y3 _ rs3 fr3 ey3 q3 => ?_
  subst ey ey3
  obtain ⟨z, hz, q3⟩ := lift_get q3
  obtain ⟨d, e1, e3⟩ := Option.bind_eq_some_iff.mp hz
  have bx := Opd.bor rs3 ((rp1.go fr2).go fr3) e1
  unfold fSl at e3
  split at e3
  · cases e3
    obtain ⟨p, xs, rfl, w1, w2⟩ := bor_lst bx
    refine .inl ⟨p, xs, rfl, .of w1, fun r hr => ?_⟩
    obtain ⟨n1, n2⟩ := new_lst rs3 hr (rpa_cut w2)
    exact q3 ω3 _ _ (rs3.grow n1) (.grow n1 rs3.own) n2
  · cases e3
    obtain ⟨p, xs, rfl, w1, w2⟩ := bor_tup bx
    refine .inr (.inl ⟨p, xs, rfl, sqT_mono hid_le w1, fun hw => ?_, fun _ r hr => ?_⟩)
    · rw [w2.length] at hw
      rw [cut_whole hw] at q3
      exact q3 ω3 H3 _ rs3 (.refl _ _) (.tup w1 w2)
    · obtain ⟨n1, n2⟩ := new_tup rs3 hr (rpa_cut w2)
      exact q3 ω3 _ _ (rs3.grow n1) (.grow n1 rs3.own) n2
  · split at e3
    · rename_i hz3
      cases e3
      have bx := bx.rp
      cases bx
      exact .inr (.inr ⟨_, rfl, hz3, q3 ω3 H3 _ rs3 (.refl _ _) (.str _)⟩)
    · cases e3
  · cases e3
/-- .. a new list -/
def fSlL : Dt → Option Int → Option Int → Option Dt := fun d lo hi => match d with
  | .list ds => some (.list (cutG ds lo hi))
  | _ => none
def mSlL (m : SS → EO Opd) (l h : SS → EO (Option Int)) : SS → EO Dt := fun ss => (m ss).bind fun o ss => (l ss).bind fun lo ss => (h ss).bind fun hi ss => .lift ((o.get ss).bind fun d => fSlL d lo hi) ss
theorem o_slice (C : VC X k P w K mg base W) {lo hi : Option Expr} {p2 : Pos} {m : SS → EO Opd} {l h : SS → EO (Option Int)} (hm : VB X K mg W a m) (hl : VP X K mg W lo l) (hh : VP X K mg W hi h) : VO X K mg W (.Subscript a (.Slice lo hi none p2) pos) (mSlL m l h) := by
  obtain ⟨t, a1, a2⟩ := hm.ex
  obtain ⟨tl, b1, b2⟩ := hl.ex
  obtain ⟨th, c1, c2⟩ := hh.ex
  refine ⟨tSl (rSlL K) t tl th, fun i => by rw [← C.eK i]; exact pe_slice sl_list (a1 i) (b1 i) (c1 i), fun k ω ss σ H Q hk rs q => a2 ω ss σ H _ rs ?_⟩
  refine seqE (R2 := NewR K H k) q fun o ss1 ω1 H1 x _ rs1 fr1 rp1 q1 => b2 ω1 ss1 σ H1 _ rs1 ?_
  refine seqE (R2 := NewR K H k) q1 fun lo' ss2 ω2 H2 y _ rs2 fr2 ey q2 => c2 ω2 ss2 σ H2 _ rs2 ?_
  refine seqE (R2 := NewR K H k) q2 fun hi' ss3 ω3 H3 y3 _ rs3 fr3 ey3 q3 => ?_
  subst ey ey3
  obtain ⟨z, hz, q3⟩ := lift_get q3
  obtain ⟨d, e1, e3⟩ := Option.bind_eq_some_iff.mp hz
  have bx := Opd.bor rs3 ((rp1.go fr2).go fr3) e1
  unfold fSlL at e3
  split at e3
  · cases e3
    obtain ⟨p, xs, rfl, w1, w2⟩ := bor_lst bx
    refine ⟨p, xs, rfl, .of w1, fun r hr => ?_⟩
    obtain ⟨ω4, g1, rs4, fr4, hs4⟩ := rs3.new (o := .lst _) hk hr
    exact q3 ω4 _ _ rs4 fr4 ⟨r, rfl, ((fr1.trans fr2).trans fr3).tr r hr, g1, .inl ⟨_, _, rfl, upd_same, RpA.mono hs4 _ _ (rpa_cut w2)⟩⟩
  · cases e3
/-- xs[::-1], a new list -/
def mRevL (m : SS → EO Opd) : SS → EO Dt := fun ss => (m ss).bind fun o ss => match o.get ss with
  | some (.list ds) => .ok (.list ds.reverse) ss
  | _ => .no
theorem o_rev (C : VC X k P w K mg base W) {j : Nat} {p1 p2 p3 : Pos} {m : SS → EO Opd} (hm : VB X K mg W a m) : VO X K mg W (.Subscript a (.Slice none none (some (.UnaryOp .USub (.Constant (.int 1) j p1) p2)) p3) pos) (mRevL m) := by
  obtain ⟨t, a1, a2⟩ := hm.ex
  refine ⟨tRevL K t, fun i => by rw [← C.eK i]; exact pe_revL (a1 i), fun k ω ss σ H Q hk rs q => a2 ω ss σ H _ rs ?_⟩
  refine seqE (R2 := NewR K H k) q fun o ss1 ω1 H1 x _ rs1 fr1 rp1 q1 => ?_
  split at q1
  · rename_i ds e1
    obtain ⟨p, xs, rfl, w1, w2⟩ := bor_lst (Opd.bor rs1 rp1 e1)
    refine ⟨p, xs, rfl, .of w1, fun r hr => ?_⟩
    obtain ⟨ω4, g1, rs4, fr4, hs4⟩ := rs1.new (o := .lst xs.reverse) hk hr
    exact q1 ω4 _ _ rs4 fr4 ⟨r, rfl, fr1.tr r hr, g1, .inl ⟨_, _, rfl, upd_same, RpA.mono hs4 _ _ w2.rev⟩⟩
  · exact q1.elim

def mDict0 : SS → EO Dt := fun ss => .ok (.dict []) ss
theorem o_dict0 : VO X K mg W (.Dict [] [] pos) mDict0 := by
  refine ⟨tDNewK, fun _ => pe_dnewK, fun k ω ss σ H Q hk rs q p hp => ?_⟩
  obtain ⟨ω2, e2, rs2, fr2, hs2⟩ := rs.new (o := .dK []) hk hp
  exact q ω2 _ _ rs2 fr2 ⟨p, rfl, hp, e2, .inr (.inl ⟨[], [], rfl, upd_same, .nil⟩)⟩

structure MuS {ι : Type} (X : ι → Cx) (K : PySem.W.Frag) (id : String) (f : List Dt → Option Dt) : Prop where
  ex : ∃ r : V → List V → Hp → VK → Prop, (∀ i, MtR (X i) id r) ∧ ∀ ω ss σ H x xs d ds z (Q : VK), RS K ω ss σ H → Bor K ω H x d → BorA K ω H xs ds → f (d :: ds) = some z → (∀ H' v, Same H H' → Rp K (hid ω H') v z → Q v H') → r x xs H Q
/-- o.name(e), a text's -/
def mM1 (f : List Dt → Option Dt) (m n : SS → EO Opd) : SS → EO Dt := fun ss => (m ss).bind fun o ss => match o with
  | .da (.str z) => (n ss).bind fun p ss => .lift ((p.get ss).bind fun d => f [.str z, d]) ss
  | _ => .no
theorem v_m1 {id : String} {name : Str} {ap : Pos} {f : List Dt → Option Dt} {m n : SS → EO Opd} (slot : Slot "str" name id) (ty : typeOf (.builtin id) = pure (.type "method_descriptor")) (h : MuS X K id f) (hm : VB X K mg W a m) (hn : VB X K mg W b n)
    (hs : ∀ i, starEach [b] (X i).env = [(false, eval b (X i).env)] := by intro _; rfl) (hb : ∀ i, attributeBase a name (X i).env (eval a (X i).env) = eval a (X i).env := by intro _; rfl) (hl : (ap.endLine == pos.line) = true := by rfl) :
    VE X K mg W (.Call (.Attribute a name ap) [b] [] pos) (mM1 f m n) := by
  obtain ⟨r, r1, r2⟩ := h.ex
  obtain ⟨t, a1, a2⟩ := hm.ex
  obtain ⟨u, b1, b2⟩ := hn.ex
  refine ⟨_, fun i => pe_m1 slot ty (r1 i) (a1 i) (b1 i) (hs i) (hb i) hl, fun ω ss σ H Q rs q => a2 ω ss σ H _ rs ?_⟩
  refine seqE q fun o ss1 ω1 H1 x _ rs1 fr1 rp1 q1 => ?_
  split at q1
  · rename_i z em
    have rz : Rp K (hid ω1 H1) x (.str z) := rp1
    cases rz
    refine ⟨⟨z, rfl⟩, b2 ω1 ss1 σ H1 _ rs1 (seqE q1 fun p ss2 ω2 H2 y _ rs2 fr2 rp2 q2 => ?_)⟩
    obtain ⟨v, hv, q2⟩ := lift_get q2
    obtain ⟨d, e1, e2⟩ := Option.bind_eq_some_iff.mp hv
    exact r2 ω2 ss2 σ H2 _ _ _ [d] v _ rs2 (.inl (.str z)) (.cons (Opd.bor rs2 rp2 e1) .nil) e2 fun H' v hs hv => q2 ω2 H' v (rs2.grow hs) (.grow hs rs2.own) hv
  · exact q1.elim
/-- o.name(), a text's -/
def mM0 (f : List Dt → Option Dt) (m : SS → EO Opd) : SS → EO Dt := fun ss => (m ss).bind fun o ss => match o with
  | .da (.str z) => .lift (f [.str z]) ss
  | _ => .no
theorem v_m0 {id : String} {name : Str} {ap : Pos} {f : List Dt → Option Dt} {m : SS → EO Opd} (slot : Slot "str" name id) (ty : typeOf (.builtin id) = pure (.type "method_descriptor")) (h : MuS X K id f) (hm : VB X K mg W a m)
    (hb : ∀ i, attributeBase a name (X i).env (eval a (X i).env) = eval a (X i).env := by intro _; rfl) (hl : (ap.endLine == pos.line) = true := by rfl) :
    VE X K mg W (.Call (.Attribute a name ap) [] [] pos) (mM0 f m) := by
  obtain ⟨r, r1, r2⟩ := h.ex
  obtain ⟨t, a1, a2⟩ := hm.ex
  refine ⟨_, fun i => pe_m0 slot ty (r1 i) (a1 i) (hb i) hl, fun ω ss σ H Q rs q => a2 ω ss σ H _ rs ?_⟩
  refine seqE q fun o ss1 ω1 H1 x _ rs1 fr1 rp1 q1 => ?_
  split at q1
  · rename_i z em
    have rz : Rp K (hid ω1 H1) x (.str z) := rp1
    cases rz
    obtain ⟨v, hv, q1⟩ := lift_get q1
    exact ⟨⟨z, rfl⟩, r2 ω1 ss1 σ H1 _ _ _ [] v _ rs1 (.inl (.str z)) .nil hv fun H' v hs hv => q1 ω1 H' v (rs1.grow hs) (.grow hs rs1.own) hv⟩
  · exact q1.elim
/-- o.name(e, ..), a text's -/
def mMn (f : List Dt → Option Dt) (m : SS → EO Opd) (n : SS → EO (List Opd)) : SS → EO Dt := fun ss => (m ss).bind fun o ss => match o with
  | .da (.str z) => (n ss).bind fun ps ss => .lift ((opsGet ss ps).bind fun ds => f (.str z :: ds)) ss
  | _ => .no
theorem v_mn (C : VC X k P w K mg base W) {id : String} {name : Str} {ap : Pos} {f : List Dt → Option Dt} {m : SS → EO Opd} {n : SS → EO (List Opd)} (slot : Slot "str" name id) (ty : typeOf (.builtin id) = pure (.type "method_descriptor")) (h : MuS X K id f) (hm : VB X K mg W a m) (hn : VBs X K mg W (e :: es) n)
    (hb : ∀ i, attributeBase a name (X i).env (eval a (X i).env) = eval a (X i).env := by intro _; rfl)
    (hf : ∀ i, ((backTo pos (starEach (e :: es) (X i).env)).all (fun x => !x.1) && (backToKw pos (keywordEach [] (X i).env)).all (fun x => x.1.isSome) && decide ((e :: es).length + ([] : List Keyword).length + (if ([] : List Keyword).isEmpty then 0 else 1) < 30)) = true := by intro _; rfl)
    (hl : (ap.endLine == pos.line) = true := by rfl) (hs : ∀ i, starEach (e :: es) (X i).env = (false, eval e (X i).env) :: starEach es (X i).env := by intro _; rfl) (hpl : ∀ i, (backTo pos (starEach es (X i).env)).any (·.1) = false := by intro _; rfl) :
    VE X K mg W (.Call (.Attribute a name ap) (e :: es) [] pos) (mMn f m n) := by
  obtain ⟨r, r1, r2⟩ := h.ex
  obtain ⟨t, a1, a2⟩ := hm.ex
  obtain ⟨u, b1, b2⟩ := hn.ex
  refine ⟨tBM K "str" r t u, fun i => by rw [← C.eK i]; exact pe_bm F.plainAttrs_str slot ty (r1 i) (a1 i) (b1 i) (hb i) (hf i) hl (hs i) (hpl i), fun ω ss σ H Q rs q => a2 ω ss σ H _ rs ?_⟩
  refine seqE q fun o ss1 ω1 H1 x _ rs1 fr1 rp1 q1 => ?_
  split at q1
  · rename_i z em
    have rz : Rp K (hid ω1 H1) x (.str z) := rp1
    cases rz
    refine ⟨rfl, b2 ω1 ss1 σ H1 _ rs1 (seqE q1 fun ps ss2 ω2 H2 y _ rs2 fr2 rp2 q2 => ?_)⟩
    obtain ⟨v, hv, q2⟩ := lift_get q2
    obtain ⟨ds, e1, e2⟩ := Option.bind_eq_some_iff.mp hv
    exact r2 ω2 ss2 σ H2 _ _ _ ds v _ rs2 (.inl (.str z)) (OpdA.bor rs2 rp2 e1) e2 fun H' v hs hv => q2 ω2 H' v (rs2.grow hs) (.grow hs rs2.own) hv
  · exact q1.elim
def textsD : List Dt → Option (List Str)
  | [] => some []
  | .str z :: ds => (textsD ds).map (z :: ·)
  | _ :: _ => none
theorem rpa_texts {H : Hp} : ∀ {ds : List Dt} {xs : List V} {bs : List Str}, RpA K H xs ds → textsD ds = some bs → xs = bs.map V.str
  | [], _, _, h, e => by cases h; cases e; rfl
  | d :: ds, _, _, h, e => by
    cases h with
    | cons h1 h2 =>
      cases d with
      | str z =>
        obtain ⟨bs', e1, rfl⟩ := Option.map_eq_some_iff.mp (show (textsD ds).map (z :: ·) = some _ from e)
        cases h1
        rw [rpa_texts h2 e1]
        rfl
      | _ => cases e
def joinD (z : Str) (bs : List Str) : Option Dt := if (bs.map (·.length)).sum + bs.length * z.length ≤ 16777216 then some (.str (Txt.join z bs)) else none
def fJoin : List Dt → Option Dt
  | [.str z, .list ds] => (textsD ds).bind (joinD z)
  | [.str z, .tuple ds] => (textsD ds).bind (joinD z)
  | _ => none
theorem u_join (C : VC X k P w K mg base W) : MuS X K "str.join" fJoin := by
  refine ⟨fun x xs H Q => ∃ a p, ∃ ys : List Str, x = .str a ∧ xs = [.ref p] ∧ (SqL K H p (ys.map V.str) ∨ SqT K H p (ys.map V.str)) ∧ (ys.map (·.length)).sum + ys.length * a.length ≤ 16777216 ∧ Q (.str (Txt.join a ys)) H, fun i => by rw [← C.eK i]; exact mt_join, fun ω ss σ H x xs d ds z Q rs bx bs hf q => ?_⟩
  have bxr := bx.rp
  unfold fJoin at hf
  split at hf
  · rename_i e0
    cases e0
    obtain ⟨ys, e1, e2⟩ := Option.bind_eq_some_iff.mp hf
    unfold joinD at e2
    split at e2
    · rename_i hz
      cases e2
      cases bxr
      obtain ⟨y, rfl, b1⟩ := bor1 bs
      obtain ⟨p, us, rfl, w1, w2⟩ := bor_lst b1
      have e3 := rpa_texts w2 e1
      subst e3
      exact ⟨_, p, ys, rfl, rfl, .inl (.of w1), hz, q H _ (Same.refl _) (.str _)⟩
    · cases e2
  · rename_i e0
    cases e0
    obtain ⟨ys, e1, e2⟩ := Option.bind_eq_some_iff.mp hf
    unfold joinD at e2
    split at e2
    · rename_i hz
      cases e2
      cases bxr
      obtain ⟨y, rfl, b1⟩ := bor1 bs
      obtain ⟨p, us, rfl, w1, w2⟩ := bor_tup b1
      have e3 := rpa_texts w2 e1
      subst e3
      exact ⟨_, p, ys, rfl, rfl, .inr (sqT_mono hid_le w1), hz, q H _ (Same.refl _) (.str _)⟩
    · cases e2
  · cases hf
def fUpper : List Dt → Option Dt
  | [.str z] => if z.length ≤ 5592405 then some (.str (Txt.upper z)) else none
  | _ => none
theorem u_upper : MuS X K "str.upper" fUpper := by
  refine ⟨_, fun i => mt_upper, fun ω ss σ H x xs d ds z Q rs bx bs hf q => ?_⟩
  have bxr := bx.rp
  unfold fUpper at hf
  split at hf
  · rename_i e0
    cases e0
    split at hf
    · rename_i hz
      cases hf
      cases bxr
      cases bs
      exact ⟨_, rfl, rfl, hz, q H _ (Same.refl _) (.str _)⟩
    · cases hf
  · cases hf
def fRstrip : List Dt → Option Dt
  | [.str z, .str y] => if z.length ≤ sizeLine then some (.str (Txt.rstripChars z y)) else none
  | _ => none
theorem u_rstrip : MuS X K "str.rstrip" fRstrip := by
  refine ⟨_, fun i => mt_rstripChars, fun ω ss σ H x xs d ds z Q rs bx bs hf q => ?_⟩
  have bxr := bx.rp
  unfold fRstrip at hf
  split at hf
  · rename_i e0
    cases e0
    split at hf
    · rename_i hz
      cases hf
      cases bxr
      obtain ⟨y, rfl, b1⟩ := bor1 bs
      have b1 := b1.rp
      cases b1
      exact ⟨_, _, rfl, rfl, hz, q H _ (Same.refl _) (.str _)⟩
    · cases hf
  · cases hf
end
end VL

namespace VZ
open PySem
open Sem (wp)
theorem nolen : typeLookup (.type "zip") "__len__" = pure none := by
  rw [typeLookup_type, builtinLookup_eq_fast]
  kernel_rfl
theorem nohint : typeLookup (.type "zip") "__length_hint__" = pure none := by
  rw [typeLookup_type, builtinLookup_eq_fast]
  kernel_rfl
section
variable {prog : Program} {w : World} {A : Around} {E : Value → Shared → Prop} {s : Shared} {L z TI TO T i1 i2 : Addr} {fp1 fp2 : List Addr} {n1 n2 i : Nat} {P1 P2 : Nat → Value → Prop} {St1 St2 : Nat → Heap → Prop} {f : Bool} {oT : Obj}
/-- a turn while the tuple of the turn before is out -/
theorem turn {Q : Value → Shared → Prop} (S : ZipSep2 z TI TO i1 i2 fp1 fp2) (D1 : Draws prog w A i1 fp1 n1 P1 St1) (D2 : Draws prog w A i2 fp2 n2 P2 St2) (hz : IsZipHeld s.heap z TI TO T f) (hT : s.heap.get? T = some oT) (hI : IsTupOf2 s.heap TI (.ref i1) (.ref i2)) (a1 : St1 i s.heap) (a2 : St2 i s.heap) (l1 : i < n1) (l2 : i < n2)
    (hQ : ∀ x y h' tk, P1 i x → P2 i y → IsZipHeld h' z TI TO T true → St1 (i + 1) h' → St2 (i + 1) h' → IsTupOf2 h' s.heap.objs.size x y → (∀ c o, c ≠ z → c ≠ i1 → c ≠ i2 → s.heap.get? c = some o → h'.get? c = some o) → Q (.ref s.heap.objs.size) { s with heap := h', toks := tk }) :
    wpAny (model prog w) A (Builtin.«zip.__next__» ⟨[.ref z], []⟩) (fun r s' => ∃ v, r = .done (.ret v) ∧ Q v s') E s := by
  obtain ⟨hp, g, d, tk0, os⟩ := s
  show wpAny _ _ (field (.ref z) 2 >>= _) _ _ _
  refine wpAny_bind (wpAny_field hz rfl (x := Value.bool false) rfl ?_)
  show wpAny _ _ (field (.ref z) 3 >>= _) _ _ _
  refine wpAny_bind (wpAny_field hz rfl (x := Value.ref TI) rfl (wpAny_bind (wpAny_seqItems hI rfl ?_)))
  show wpAny _ _ (Builtin.SmallTypes.ownedTupleIsFree (.ref z) >>= _) _ _ _
  refine wpAny_bind (wpAny_tupleHeld_zip hz hT fun k1 kz ks => ?_)
  replace kz : IsZipHeld k1 z TI TO T true := kz
  replace ks : Heap.SameBut z hp k1 := ks
  simp only [Bool.false_eq_true, if_false]
  refine wpAny_bind ?_
  rw [← Array.forIn_toList]
  simp only [List.forIn_cons, List.forIn_nil]
  refine wpAny_bind (wpAny_bind (wpAny_holding ?_))
  show wpAny _ _ (Builtin.SmallTypes.nextOf (.ref i1) >>= _) _ _ ⟨k1, g, d, tk0, os⟩
  refine wpAny_bind (D1.item i ⟨k1, g, d, tk0, os⟩ _ _ l1 (D1.over a1 ks S.zf1) fun x k2 t2 px b1 s2 => wpAny_pure (wpAny_pure ?_))
  replace s2 : Heap.SameBut i1 k1 k2 := s2
  refine wpAny_bind (wpAny_bind (wpAny_holding ?_))
  show wpAny _ _ (Builtin.SmallTypes.nextOf (.ref i2) >>= _) _ _ ⟨k2, g, d, t2, os⟩
  refine wpAny_bind (D2.item i ⟨k2, g, d, t2, os⟩ _ _ l2 (D2.over (D2.over a2 ks S.zf2) s2 S.sep1_2) fun y k3 t3 py b2 s3 => wpAny_pure (wpAny_pure (wpAny_pure ?_)))
  replace s3 : Heap.SameBut i2 k2 k3 := s3
  show wpAny _ _ (newTuple [x, y] >>= _) _ _ _
  refine wpAny_bind (wpAny_newTuple ?_)
  have ez : k3.objs.size = hp.objs.size := by rw [s3.1, s2.1, ks.1]
  have z3 : IsZipHeld k3 z TI TO T true := s3.extBut _ _ S.zi2 (s2.extBut _ _ S.zi1 kz)
  have kk : ∀ c o, c ≠ z → c ≠ i1 → c ≠ i2 → hp.get? c = some o → k3.get? c = some o := fun c o n0 n1 n2 e => s3.extBut _ _ n2 (s2.extBut _ _ n1 (ks.extBut _ _ n0 e))
  refine wpAny_pure ⟨_, rfl, ?_⟩
  show Q (.ref k3.objs.size) ⟨k3.push { cls := .type "tuple", data := .seq #[x, y] }, g, d, t3, os⟩
  have hp2 : IsTupOf2 (k3.push { cls := .type "tuple", data := .seq #[x, y] }) k3.objs.size x y := Heap.get?_push_size _ rfl
  rw [ez] at hp2 ⊢
  exact hQ x y _ t3 px py (Heap.get?_push_of_some _ z3) (D1.frame _ _ _ (D1.over b1 s3 S.sep2_1) fun b _ o e => Heap.get?_push_of_some _ e) (D2.frame _ _ _ b2 fun b _ o e => Heap.get?_push_of_some _ e) hp2 fun c o n0 n1 n2 e => Heap.get?_push_of_some _ (kk c o n0 n1 n2 e)
/-- the end, likewise: both are as long -/
theorem stop {Q : Fin → Shared → Prop} (S : ZipSep2 z TI TO i1 i2 fp1 fp2) (D1 : Draws prog w A i1 fp1 n1 P1 St1) (hz : IsZipHeld s.heap z TI TO T f) (hT : s.heap.get? T = some oT) (hI : IsTupOf2 s.heap TI (.ref i1) (.ref i2)) (a1 : St1 n1 s.heap)
    (hE : ∀ h' tk e, (∀ c o, c ≠ z → c ≠ i1 → c ≠ i2 → s.heap.get? c = some o → h'.get? c = some o) → (∃ o, h'.get? e = some o ∧ o.cls = .type "StopIteration") → E (.ref e) { s with heap := h', toks := tk }) :
    wpAny (model prog w) A (Builtin.«zip.__next__» ⟨[.ref z], []⟩) Q E s := by
  obtain ⟨hp, g, d, tk0, os⟩ := s
  show wpAny _ _ (field (.ref z) 2 >>= _) _ _ _
  refine wpAny_bind (wpAny_field hz rfl (x := Value.bool false) rfl ?_)
  show wpAny _ _ (field (.ref z) 3 >>= _) _ _ _
  refine wpAny_bind (wpAny_field hz rfl (x := Value.ref TI) rfl (wpAny_bind (wpAny_seqItems hI rfl ?_)))
  show wpAny _ _ (Builtin.SmallTypes.ownedTupleIsFree (.ref z) >>= _) _ _ _
  refine wpAny_bind (wpAny_tupleHeld_zip hz hT fun k1 kz ks => ?_)
  replace ks : Heap.SameBut z hp k1 := ks
  simp only [Bool.false_eq_true, if_false]
  refine wpAny_bind ?_
  rw [← Array.forIn_toList]
  simp only [List.forIn_cons, List.forIn_nil]
  refine wpAny_bind (wpAny_bind (wpAny_holding ?_))
  show wpAny _ _ (Builtin.SmallTypes.nextOf (.ref i1) >>= _) _ _ ⟨k1, g, d, tk0, os⟩
  refine wpAny_bind (D1.done ⟨k1, g, d, tk0, os⟩ _ _ (D1.over a1 ks S.zf1) fun q e hq he => ?_)
  exact hE q tk0 e (fun c o n0 n1 _ x => hq _ _ n1 (ks.extBut _ _ n0 x)) he
def At (L z TI TO i1 i2 : Addr) (St1 St2 : Nat → Heap → Prop) (i : Nat) (h : Heap) : Prop := IsTupOf2 h TI (.ref i1) (.ref i2) ∧ St1 i h ∧ St2 i h ∧
  ((IsZip h z TI TO .none ∧ ∃ a b, IsTupOf2 h TO a b) ∨ ∃ T f oT, IsZipHeld h z TI TO T f ∧ h.get? T = some oT ∧ T ≠ z ∧ T ≠ i1 ∧ T ≠ i2 ∧ T ≠ L)
theorem next {Q : Option Value → Shared → Prop} (S : ZipSep2 z TI TO i1 i2 fp1 fp2) (D1 : Draws prog w A.in1 i1 fp1 n1 P1 St1) (D2 : Draws prog w A.in1 i2 fp2 n2 P2 St2) (h : At L z TI TO i1 i2 St1 St2 i s.heap) (hL : ∃ o, s.heap.get? L = some o) (l1 : i < n1) (l2 : i < n2)
    (hQ : ∀ x y h' tk, P1 i x → P2 i y → At L z TI TO i1 i2 St1 St2 (i + 1) h' → IsTupOf2 h' s.heap.objs.size x y → (∀ c o, c ≠ z → c ≠ TO → c ≠ i1 → c ≠ i2 → s.heap.get? c = some o → h'.get? c = some o) → Q (some (.ref s.heap.objs.size)) { s with heap := h', toks := tk }) :
    wpAny (model prog w) A (pyNext (.ref z)) Q E s := by
  obtain ⟨hI, a1, a2, h | ⟨T, f, oT, hz, hT, m0, m1, m2, m3⟩⟩ := h
  · obtain ⟨hz, a, b, hO⟩ := h
    refine wpAny_pyNext_zipD2_item S D1 D2 hz hI hO a1 a2 l1 l2 fun x y h' tk px py q1 q2 q3 q4 q5 q6 q7 => hQ x y h' tk px py ?_ q5 q7
    have lt : ∀ {c o}, s.heap.get? c = some o → s.heap.objs.size ≠ c := fun e => Nat.ne_of_gt (Heap.lt_size e)
    obtain ⟨_, e1⟩ := D1.live _ _ a1
    obtain ⟨_, e2⟩ := D2.live _ _ a2
    obtain ⟨_, eL⟩ := hL
    exact ⟨q7 _ _ S.TIz S.TITO S.TIi1 S.TIi2 hI, q3, q4, .inr ⟨s.heap.objs.size, false, _, q1, q5, lt hz, lt e1, lt e2, lt eL⟩⟩
  · have hTy : s.TypeIs (.ref z) "zip" := ⟨_, hz, rfl⟩
    unfold pyNext
    refine wpAny_bind (wpAny_attempt (wpAny_callSpecial?_slot (name := Str.ofString "__next__") hTy F.slot_zip_next (wpAny_call_entry F.slot_zip_next hTy F.entry_zip_next ?_ (F.args_zip_next_1 _))))
    refine turn S D1 D2 hz hT hI a1 a2 l1 l2 fun x y h' tk px py q1 q3 q4 q5 q7 => wpAny_pure (hQ x y h' tk px py ?_ q5 fun c o n0 _ n1 n2 e => q7 c o n0 n1 n2 e)
    exact ⟨q7 _ _ S.TIz S.TIi1 S.TIi2 hI, q3, q4, .inr ⟨T, true, oT, q1, q7 _ _ m0 m1 m2 hT, m0, m1, m2, m3⟩⟩
theorem last {Q : Option Value → Shared → Prop} (S : ZipSep2 z TI TO i1 i2 fp1 fp2) (D1 : Draws prog w A.in1 i1 fp1 n1 P1 St1) (D2 : Draws prog w A.in1 i2 fp2 n2 P2 St2) (e12 : n1 = n2) (h : At L z TI TO i1 i2 St1 St2 n1 s.heap)
    (hQ : ∀ h' tk, (∀ c o, c ≠ z → c ≠ TO → c ≠ i1 → c ≠ i2 → s.heap.get? c = some o → h'.get? c = some o) → Q none { s with heap := h', toks := tk }) : wpAny (model prog w) A (pyNext (.ref z)) Q E s := by
  obtain ⟨hI, a1, a2, h | ⟨T, f, oT, hz, hT, m0, m1, m2, m3⟩⟩ := h
  · obtain ⟨hz, a, b, hO⟩ := h
    exact wpAny_pyNext_zipD2_end S D1 D2 hz hI hO a1 a2 (Nat.le_refl _) (Nat.le_of_eq e12) (.inl rfl) hQ
  · have hTy : s.TypeIs (.ref z) "zip" := ⟨_, hz, rfl⟩
    unfold pyNext
    refine wpAny_bind (wpAny_attempt (wpAny_callSpecial?_slot (name := Str.ofString "__next__") hTy F.slot_zip_next (wpAny_call_entry F.slot_zip_next hTy F.entry_zip_next ?_ (F.args_zip_next_1 _))))
    refine stop S D1 hz hT hI a1 fun h' tk e hk he => ?_
    obtain ⟨o, ho, hc⟩ := he
    exact wpAny_bind (wpAny_isInstance (T := "StopIteration") (b := true) ⟨o, ho, hc⟩ isSubtype_stop (wpAny_pure (hQ _ _ fun c o n0 _ n1 n2 e => hk c o n0 n1 n2 e)))
end
end VZ

namespace VZ
open PySem
open Sem (wp)
open AutoSeq1 (wpAny_loadPart')
section
variable {prog : Program} {w : World} {A : Around} {E : Value → Shared → Prop} {s : Shared} {z TI TO L i1 i2 N : Addr} {fp1 fp2 : List Addr} {n i : Nat} {P1 P2 : Nat → Value → Prop} {St1 St2 : Nat → Heap → Prop}
/-- what was gathered in i turns -/
def Got (P1 P2 : Nat → Value → Prop) (N : Addr) (h : Heap) (acc : Array Value) (i : Nat) : Prop := acc.size = i ∧ ∀ j v, acc[j]? = some v → ∃ T x y, v = .ref T ∧ N ≤ T ∧ P1 j x ∧ P2 j y ∧ IsTupOf2 h T x y
theorem Got.next {h h' : Heap} {acc : Array Value} {x y : Value} {T : Addr} (g : Got P1 P2 N h acc i) (k : ∀ c o, N ≤ c → h.get? c = some o → h'.get? c = some o) (hT : N ≤ T) (p1 : P1 i x) (p2 : P2 i y) (t : IsTupOf2 h' T x y) : Got P1 P2 N h' (acc.push (.ref T)) (i + 1) := by
  refine ⟨by rw [Array.size_push, g.1], fun j v hj => ?_⟩
  rw [Array.getElem?_push] at hj
  split at hj
  · rename_i e
    rw [g.1] at e
    cases hj
    subst e
    exact ⟨T, x, y, rfl, hT, p1, p2, t⟩
  · obtain ⟨T', x', y', q1, q2, q3, q4, q5⟩ := g.2 j v hj
    exact ⟨T', x', y', q1, q2, q3, q4, k _ _ q2 q5⟩
theorem Got.keep {h h' : Heap} {acc : Array Value} (g : Got P1 P2 N h acc i) (k : ∀ c o, N ≤ c → h.get? c = some o → h'.get? c = some o) : Got P1 P2 N h' acc i := ⟨g.1, fun j v hj => by
  obtain ⟨T', x', y', q1, q2, q3, q4, q5⟩ := g.2 j v hj
  exact ⟨T', x', y', q1, q2, q3, q4, k _ _ q2 q5⟩⟩
/-- z and its parts lie below N, L too -/
structure Low (N z TI TO L i1 i2 : Addr) (fp1 fp2 : List Addr) : Prop where
  zN : z < N
  ON : TO < N
  LN : L < N
  iN : i1 < N
  jN : i2 < N
  Lz : L ≠ z
  LI : L ≠ TI
  LO : L ≠ TO
  Li : L ≠ i1
  Lj : L ≠ i2
  f1 : L ∉ fp1
  f2 : L ∉ fp2
abbrev Lst (h : Heap) (L : Addr) (acc : Array Value) (c : Nat) : Prop := h.get? L = some { cls := .type "list", dict := none, data := .seq acc c, slots := #[] }
theorem At.over {h h' : Heap} (a : At L z TI TO i1 i2 St1 St2 i h) (lo : Low N z TI TO L i1 i2 fp1 fp2) (sb : Heap.SameBut L h h') (D1 : Draws prog w A.in1 i1 fp1 n P1 St1) (D2 : Draws prog w A.in1 i2 fp2 n P2 St2) : At L z TI TO i1 i2 St1 St2 i h' := by
  obtain ⟨hI, a1, a2, hh⟩ := a
  refine ⟨sb.extBut _ _ (Ne.symm lo.LI) hI, D1.over a1 sb lo.f1, D2.over a2 sb lo.f2, ?_⟩
  rcases hh with ⟨hz, b, c, hO⟩ | ⟨T, f, o, hz, hT, m0, m1, m2, m3⟩
  · exact .inl ⟨sb.extBut _ _ (Ne.symm lo.Lz) hz, b, c, sb.extBut _ _ (Ne.symm lo.LO) hO⟩
  · exact .inr ⟨T, f, o, sb.extBut _ _ (Ne.symm lo.Lz) hz, sb.extBut _ _ m3 hT, m0, m1, m2, m3⟩
def Kp (z TO L i1 i2 : Addr) (h h' : Heap) : Prop := ∀ c o, c ≠ z → c ≠ TO → c ≠ L → c ≠ i1 → c ≠ i2 → h.get? c = some o → h'.get? c = some o
theorem loop {R : Result → Shared → Prop} (S : ZipSep2 z TI TO i1 i2 fp1 fp2) (D1 : Draws prog w A.in1.in1 i1 fp1 n P1 St1) (D2 : Draws prog w A.in1.in1 i2 fp2 n P2 St2) (lo : Low N z TI TO L i1 i2 fp1 fp2) (hn : n ≤ sizeLine) (res : Value) :
    ∀ (k i : Nat) (s : Shared) (acc : Array Value) (c : Nat), n - i = k → i ≤ n → N ≤ s.heap.objs.size → At L z TI TO i1 i2 St1 St2 i s.heap → Lst s.heap L acc c → Got P1 P2 N s.heap acc i →
    (∀ h' tk acc' c', Kp z TO L i1 i2 s.heap h' → Lst h' L acc' c' → Got P1 P2 N h' acc' n → R (.ok (.ret res)) { s with heap := h', toks := tk }) →
    codeAny (model prog w) A (.builtin "list.extend.loop" ⟨[.ref L, .ref z, res], []⟩) R s := by
  intro k
  induction k with
  | zero =>
    intro i s acc c hk hi hN hst hL hg hR
    have e : i = n := by omega
    subst e
    refine codeAny_builtin F.entry_extend_loop ?_
    rw [Around.under_plainId F.plain_extend_loop _]
    show wpAny _ A.in1 (pyNext (.ref z) >>= _) _ _ s
    refine wpAny_bind (last S D1 D2 rfl hst fun h' tk hk => wpAny_pure (hR h' tk acc c (fun c o n0 n1 _ n3 n4 e => hk c o n0 n1 n3 n4 e) (hk _ _ lo.Lz lo.LO lo.Li lo.Lj hL) (hg.keep fun c o hc e => ?_)))
    have q1 := lo.zN
    have q2 := lo.ON
    have q3 := lo.iN
    have q4 := lo.jN
    exact hk c o (Nat.ne_of_gt (Nat.lt_of_lt_of_le q1 hc)) (Nat.ne_of_gt (Nat.lt_of_lt_of_le q2 hc)) (Nat.ne_of_gt (Nat.lt_of_lt_of_le q3 hc)) (Nat.ne_of_gt (Nat.lt_of_lt_of_le q4 hc)) e
  | succ k ih =>
    intro i s acc c hk hi hN hst hL hg hR
    have hlt : i < n := by omega
    refine codeAny_builtin F.entry_extend_loop ?_
    rw [Around.under_plainId F.plain_extend_loop _]
    show wpAny _ A.in1 (pyNext (.ref z) >>= _) _ _ s
    refine wpAny_bind (next S D1 D2 hst ⟨_, hL⟩ hlt hlt fun x y h1 tk px py hst1 hT hk1 => ?_)
    have q1 := lo.zN
    have q2 := lo.ON
    have q3 := lo.iN
    have q4 := lo.jN
    have q5 := lo.LN
    have hi1 : ∀ c o, N ≤ c → s.heap.get? c = some o → h1.get? c = some o := fun c o hc e => hk1 c o (Nat.ne_of_gt (Nat.lt_of_lt_of_le q1 hc)) (Nat.ne_of_gt (Nat.lt_of_lt_of_le q2 hc)) (Nat.ne_of_gt (Nat.lt_of_lt_of_le q3 hc)) (Nat.ne_of_gt (Nat.lt_of_lt_of_le q4 hc)) e
    have hL1 : Lst h1 L acc c := hk1 _ _ lo.Lz lo.LO lo.Li lo.Lj hL
    show wpAny _ A.in1 (updateSeq L (·.push (.ref s.heap.objs.size)) >>= _) _ _ _
    refine wpAny_bind (wpAny_updateSeq (s := { s with heap := h1, toks := tk }) hL1 rfl (wpAny_pure ⟨plainId_quiet F.plain_extend_loop _, ?_⟩) (by rw [hg.1]; omega) (by show (acc.push (Value.ref s.heap.objs.size)).size ≤ sizeLine + 1; rw [Array.size_push, hg.1]; omega))
    have sb : Heap.SameBut L h1 (h1.update L (Obj.mapSeq (·.push (.ref s.heap.objs.size)))) := Heap.SameBut.update ..
    have hN1 : N ≤ h1.objs.size := Nat.le_of_lt (Nat.lt_of_le_of_lt hN (Heap.lt_size hT))
    refine ih (i + 1) _ (acc.push (.ref s.heap.objs.size)) _ (by omega) hlt (by show N ≤ (h1.update L _).objs.size; rw [sb.1]; exact hN1) (hst1.over lo sb D1 D2) (Heap.get?_update_self _ hL1 rfl) ((hg.next hi1 hN px py hT).keep fun c o hc e => sb.extBut _ _ (Nat.ne_of_gt (Nat.lt_of_lt_of_le q5 hc)) e) fun h2 tk2 acc2 c2 hk2 hL2 hg2 => ?_
    exact hR h2 tk2 acc2 c2 (fun c o n0 n1 n2 n3 n4 e => hk2 c o n0 n1 n2 n3 n4 (sb.extBut _ _ n2 (hk1 c o n0 n1 n3 n4 e))) hL2 hg2
/-- all turns of z, gathered: z's parts are as they were made -/
theorem gather {Q : List Value → Shared → Prop} (S : ZipSep2 z TI TO i1 i2 fp1 fp2) (D1 : Draws prog w A.in1.in1 i1 fp1 n P1 St1) (D2 : Draws prog w A.in1.in1 i2 fp2 n P2 St2) (lt : ∀ b ∈ z :: TI :: TO :: i1 :: i2 :: (fp1 ++ fp2), b < s.heap.objs.size) (hn : n ≤ sizeLine)
    (hI : IsTupOf2 s.heap TI (.ref i1) (.ref i2)) (hz : IsZip s.heap z TI TO .none) (hO : ∃ a b, IsTupOf2 s.heap TO a b) (a1 : St1 0 s.heap) (a2 : St2 0 s.heap)
    (hQ : ∀ h' tk acc, (∀ c o, c ≠ z → c ≠ TO → c ≠ i1 → c ≠ i2 → s.heap.get? c = some o → h'.get? c = some o) → Got P1 P2 s.heap.objs.size h' acc n → Q acc.toList { s with heap := h', toks := tk }) :
    wpAny (model prog w) A (collect (.ref z)) Q E s := by
  have hL0 : ∀ b ∈ z :: TI :: TO :: i1 :: i2 :: (fp1 ++ fp2), s.heap.objs.size ≠ b := fun b hb => Nat.ne_of_gt (lt b hb)
  have lo : Low (s.heap.objs.size + 1) z TI TO s.heap.objs.size i1 i2 fp1 fp2 :=
    ⟨Nat.lt_succ_of_lt (lt z (by simp)), Nat.lt_succ_of_lt (lt TO (by simp)), Nat.lt_succ_self _, Nat.lt_succ_of_lt (lt i1 (by simp)), Nat.lt_succ_of_lt (lt i2 (by simp)), hL0 z (by simp), hL0 TI (by simp), hL0 TO (by simp), hL0 i1 (by simp), hL0 i2 (by simp), fun m => hL0 _ (by simp [m]) rfl, fun m => hL0 _ (by simp [m]) rfl⟩
  unfold collect
  refine wpAny_bind (wpAny_runValue (codeAny_builtin F.entry_proto_collect ?_))
  rw [Around.under_plainId F.plain_proto_collect _]
  show wpAny _ A.in1 (newList [] >>= fun l => again (.builtin "list.__iadd__" ⟨[l, .ref z], []⟩)) _ _ s
  refine wpAny_bind (wpAny_newObj_type (wpAny_pure ⟨plainId_quiet F.plain_list_iadd _, codeAny_builtin F.entry_list_iadd ?_⟩))
  rw [Around.under_plainId F.plain_list_iadd _]
  obtain ⟨h0, eh0⟩ : ∃ h0, h0 = s.heap.push { cls := .type "list", data := .seq ([] : List Value).toArray } := ⟨_, rfl⟩
  have hb0 : ∀ c o, s.heap.get? c = some o → h0.get? c = some o := fun c o e => by rw [eh0]; exact Heap.get?_push_of_some _ e
  have hS0 : Lst h0 s.heap.objs.size ([] : List Value).toArray 0 := by rw [eh0]; exact Heap.get?_push_size _ rfl
  have hz0 : IsZip h0 z TI TO .none := hb0 _ _ hz
  have sz0 : h0.objs.size = s.heap.objs.size + 1 := by rw [eh0, Heap.size_push]
  rw [← eh0]
  have hTy : ({ s with heap := h0 } : Shared).TypeIs (.ref z) "zip" := ⟨_, hz0, rfl⟩
  show wpAny _ A.in1 (Builtin.List.listExtendWith (.ref s.heap.objs.size) (.ref z) (.ref s.heap.objs.size)) _ _ _
  unfold Builtin.List.listExtendWith
  refine wpAny_bind (wpAny_typeOf hTy ?_)
  have c1 : Builtin.List.listSameRef (.ref s.heap.objs.size) (.ref z) = false := by simp [Builtin.List.listSameRef, lo.Lz]
  have c2 : (Value.type "zip" == Value.type "list") = false := by decide
  have c3 : (Value.type "zip" == Value.type "tuple") = false := by decide
  simp only [c1, c2, c3, Bool.or_false, Bool.false_eq_true, if_false]
  refine wpAny_bind (wpAny_pyIter_zip (s := { s with heap := h0 }) hz0 ?_)
  refine wpAny_bind (wpAny_holding ?_)
  unfold Builtin.List.listLengthHint
  refine wpAny_bind (wpAny_specialOf hTy nolen ?_)
  show wpAny _ A.in1 (specialOf (Value.ref z) (Str.ofString "__length_hint__") >>= _) _ _ _
  refine wpAny_bind (wpAny_specialOf hTy nohint (wpAny_pure ?_))
  show wpAny _ A.in1 (rule "list.extend.makes-room" >>= fun _ => Builtin.List.listTouch (.ref s.heap.objs.size) >>= fun _ => again (.builtin "list.extend.loop" ⟨[.ref s.heap.objs.size, .ref z, .ref s.heap.objs.size], []⟩)) _ _ _
  refine wpAny_bind (wpAny_rule (wpAny_bind ?_))
  show wpAny _ A.in1 (updateSeq s.heap.objs.size (·.push .none) >>= fun _ => updateSeq s.heap.objs.size (·.pop)) _ _ _
  refine wpAny_bind (wpAny_updateSeq (s := { s with heap := h0 }) hS0 rfl ?_)
  have hS1 := Heap.get?_update_self (Obj.mapSeq (·.push Value.none)) hS0 rfl
  refine wpAny_updateSeq hS1 rfl ?_
  have hS2 := Heap.get?_update_self (Obj.mapSeq (·.pop)) hS1 rfl
  have sb1 : Heap.SameBut s.heap.objs.size h0 (h0.update s.heap.objs.size (Obj.mapSeq (·.push Value.none))) := Heap.SameBut.update ..
  have sb2 : Heap.SameBut s.heap.objs.size (h0.update s.heap.objs.size (Obj.mapSeq (·.push Value.none))) ((h0.update s.heap.objs.size (Obj.mapSeq (·.push Value.none))).update s.heap.objs.size (Obj.mapSeq (·.pop))) := Heap.SameBut.update ..
  have at0 : At s.heap.objs.size z TI TO i1 i2 St1 St2 0 h0 := ⟨hb0 _ _ hI, D1.frame _ _ _ a1 fun b _ o e => hb0 b o e, D2.frame _ _ _ a2 fun b _ o e => hb0 b o e, .inl ⟨hz0, let ⟨a, b, h⟩ := hO; ⟨a, b, hb0 _ _ h⟩⟩⟩
  refine wpAny_pure ⟨plainId_quiet F.plain_extend_loop _, loop (N := s.heap.objs.size + 1) S D1 D2 lo hn _ n 0 _ _ _ rfl (Nat.zero_le _) (Nat.le_of_eq (sz0.symm.trans (sb1.1.symm.trans sb2.1.symm))) ((at0.over lo sb1 D1 D2).over lo sb2 D1 D2) hS2 ⟨rfl, fun j v hj => by simp at hj⟩ fun h' tk acc c hk hL hg => ?_⟩
  show wpAny _ A (load s.heap.objs.size >>= _) _ _ _
  refine wpAny_bind (wpAny_load hL (wpAny_pure ?_))
  refine hQ h' tk acc (fun c o n0 n1 n3 n4 e => ?_) ⟨hg.1, fun j v hj => ?_⟩
  · have nL : c ≠ s.heap.objs.size := fun q => Nat.lt_irrefl _ (q ▸ Heap.lt_size e)
    exact hk c o n0 n1 nL n3 n4 (sb2.extBut _ _ nL (sb1.extBut _ _ nL (hb0 c o e)))
  · obtain ⟨T, x, y, r1, r2, r3⟩ := hg.2 j v hj
    exact ⟨T, x, y, r1, Nat.le_of_succ_le r2, r3⟩
theorem code_new {Q : Value → Shared → Prop} (S : ZipSep2 z TI TO i1 i2 fp1 fp2) (D1 : Draws prog w A.in1.in1.in1 i1 fp1 n P1 St1) (D2 : Draws prog w A.in1.in1.in1 i2 fp2 n P2 St2) (lt : ∀ b ∈ z :: TI :: TO :: i1 :: i2 :: (fp1 ++ fp2), b < s.heap.objs.size) (hn : n ≤ sizeLine)
    (hI : IsTupOf2 s.heap TI (.ref i1) (.ref i2)) (hz : IsZip s.heap z TI TO .none) (hO : ∃ a b, IsTupOf2 s.heap TO a b) (a1 : St1 0 s.heap) (a2 : St2 0 s.heap)
    (hQ : ∀ h' tk acc, (∀ c o, c ≠ z → c ≠ TO → c ≠ i1 → c ≠ i2 → s.heap.get? c = some o → h'.get? c = some o) → Got P1 P2 s.heap.objs.size h' acc n → Q (.ref h'.objs.size) { s with heap := h'.push { cls := .type "tuple", data := .seq acc }, toks := tk }) :
    codeAny (model prog w) A (.call (.builtin "tuple.__new__") ⟨[.type "tuple", .ref z], []⟩) (wants Q E) s := by
  refine codeAny_of_tree ?_
  show wpAny _ A.in1 (do checkBuiltinCall "tuple.__new__" ⟨[.type "tuple", .ref z], []⟩; again (.builtin "tuple.__new__" ⟨[.type "tuple", .ref z], []⟩)) _ _ s
  refine wpAny_bind (wpAny_of_eq (F.newCall_tuple_1 _) (wpAny_pure ⟨plainId_quiet F.plain_tuple_new _, codeAny_builtin F.entry_tuple_new ?_⟩))
  rw [Around.under_plainId F.plain_tuple_new _]
  have f1 := sub_tuple_self
  have f2 := init_tuple_lookup
  have f3 := madeHere_tuple
  have hTI : s.TypeIs (.ref z) "zip" := ⟨_, hz, rfl⟩
  wp_walk using wpAny_typeOf hTI, gather (A := A.in1) S D1 D2 lt hn hI hz hO a1 a2
  intro h' tk acc hk hg
  show wpAny _ _ (Builtin.Tuple.tupleExact acc.toList.toArray >>= fun v => ret v) _ _ _
  unfold Builtin.Tuple.tupleExact
  have e : acc.toList.toArray = acc := by simp
  rw [e]
  exact wpAny_bind (wpAny_newObj_type (wpAny_pure (hQ h' tk acc hk hg)) (by show acc.size ≤ sizeLine; rw [hg.1]; exact hn))
theorem call_tup {Q : Value → Shared → Prop} (S : ZipSep2 z TI TO i1 i2 fp1 fp2) (D1 : Draws prog w A.in1.in1.in1.in1 i1 fp1 n P1 St1) (D2 : Draws prog w A.in1.in1.in1.in1 i2 fp2 n P2 St2) (lt : ∀ b ∈ z :: TI :: TO :: i1 :: i2 :: (fp1 ++ fp2), b < s.heap.objs.size) (hn : n ≤ sizeLine)
    (hI : IsTupOf2 s.heap TI (.ref i1) (.ref i2)) (hz : IsZip s.heap z TI TO .none) (hO : ∃ a b, IsTupOf2 s.heap TO a b) (a1 : St1 0 s.heap) (a2 : St2 0 s.heap)
    (hQ : ∀ h' tk acc, (∀ c o, c ≠ z → c ≠ TO → c ≠ i1 → c ≠ i2 → s.heap.get? c = some o → h'.get? c = some o) → Got P1 P2 s.heap.objs.size h' acc n → Q (.ref h'.objs.size) { s with heap := h'.push { cls := .type "tuple", data := .seq acc }, toks := tk }) :
    wpAny (model prog w) A (call (.type "tuple") [.ref z]) Q E s := by
  refine callType_codes (Q₁ := fun obj s₁ => s₁.TypeIs obj "tuple" ∧ Q obj s₁) F.called_tuple (F.typeCall_tuple_1 _) F.entry_object_init (code_new (A := A.in1) S D1 D2 lt hn hI hz hO a1 a2 fun h' tk acc hk hg => ⟨⟨_, Heap.get?_push_size _ rfl, rfl⟩, hQ h' tk acc hk hg⟩) fun obj s₁ h₁ => ?_
  exact ⟨h₁.1, F.args_object_init_2 obj _, object_init_meets F.called_tuple.init.lookup F.called_tuple.made (by decide) prog w A.in1 _ s₁ ⟨h₁.1, rfl, h₁.2⟩⟩
end
end VZ

namespace VL
open PySem PySem.Spec L2
open PyProof.Rows hiding St
variable [WW]

/-- many new objects are tracked at once -/
theorem inv_add {X : Cx} {pins : List (Addr × Obj)} {σ : St} {H H' : Hp} {s : Shared} {h' : Heap} {t' : Nat} (I : Inv X pins σ H s) (k : ∀ b u, s.heap.get? b = some u → h'.get? b = some u) (old : ∀ b, b < s.heap.objs.size → H' b = H b)
    (new : ∀ b o, s.heap.objs.size ≤ b → H' b = some o → ObjOk X.prog X.w H' h' b o) : Inv X pins σ H' { s with heap := h', toks := t' } := by
  have lo : ∀ b o, H b = some o → H' b = some o := fun b o e => by rw [old b (I.hok.lt e)]; exact e
  refine I.un ⟨fun b o e _ _ _ => k b o e, fun b o e _ _ _ => ⟨o.slots, k b o e⟩, fun b o e n _ => by rw [old b (Heap.lt_size e)]; exact n, fun b o e _ => ⟨o, k b o e⟩, fun b xs e => lo _ _ e, fun b o u e => lo _ _ e, fun b ps e => ⟨#[], by rw [lo _ _ e]; simp⟩⟩ fun b o e => ?_
  by_cases hb : b < s.heap.objs.size
  · rw [old b hb] at e
    exact (I.hok b o e).stay (fun c v _ q => k c v q) (fun c q => lo _ _ q) fun c xs q => lo _ _ q
  · exact new b o (Nat.le_of_not_lt hb) e
open Classical in
/-- pairs of texts that are new -/
noncomputable def dec (h : Heap) (b : Addr) : Option HO := if p : ∃ x y t u, IsTupOf2 h b (.str x t) (.str y u) then some (.tup [.str p.choose, .str p.choose_spec.choose]) else none
theorem dec_of {h : Heap} {b : Addr} {o : HO} (e : dec h b = some o) : ∃ x y t u, IsTupOf2 h b (.str x t) (.str y u) ∧ o = .tup [.str x, .str y] := by
  unfold dec at e
  split at e
  · rename_i p
    obtain ⟨t, u, q⟩ := p.choose_spec.choose_spec
    cases e
    exact ⟨_, _, t, u, q, rfl⟩
  · cases e
theorem dec_at {h : Heap} {b : Addr} {x y : Str} {t u : Tok} (e : IsTupOf2 h b (.str x t) (.str y u)) : dec h b = some (.tup [.str x, .str y]) := by
  have p : ∃ x y t u, IsTupOf2 h b (.str x t) (.str y u) := ⟨x, y, t, u, e⟩
  unfold dec
  rw [dif_pos p]
  obtain ⟨t2, u2, q⟩ := p.choose_spec.choose_spec
  have z : some ({ cls := .type "tuple", data := .seq #[.str x t, .str y u] } : Obj) = some { cls := .type "tuple", data := .seq #[.str p.choose t2, .str p.choose_spec.choose u2] } := e.symm.trans q
  have z2 := Option.some.inj z
  simp only [Obj.mk.injEq, Data.seq.injEq, Array.mk.injEq, List.cons.injEq, Value.str.injEq, true_and, and_true] at z2
  have w1 : p.choose = x := z2.1.1.symm
  have w2 : p.choose_spec.choose = y := z2.2.1.symm
  exact congrArg some (congrArg HO.tup (by rw [show V.str p.choose = V.str x from congrArg V.str w1, show V.str p.choose_spec.choose = V.str y from congrArg V.str w2]))
def pairV (x y : Str) (j : Nat) : List V := [.str ⟨#[x.cps.getD j 0]⟩, .str ⟨#[y.cps.getD j 0]⟩]
/-- tuple(zip(text, text)), both as long -/
def tTupZip (t : TA) : TE := fun σ H Q => t σ H fun vs H1 => ∃ x y : Str, vs = [.str x, .str y] ∧ x.length = y.length ∧ x.length ≤ sizeLine ∧
  ∀ (H2 : Hp) (T : Addr) (Ts : List Addr), Same H1 H2 → H1 T = none → H2 T = some (.tup (Ts.map V.ref)) → Ts.length = x.length → (∀ j A, Ts[j]? = some A → H1 A = none ∧ H2 A = some (.tup (pairV x y j))) → Q (.ref T) H2
section
variable {Y : Cx} {a b : Expr} {t : TA} {p1 p2 p3 p4 : Pos}
def refD : Value → Addr
  | .ref a => a
  | _ => 0
theorem pe_tupZip (ha : PA Y [a, b] t) (hc : Y.calm = true) (g1 : Gl Y "tuple") (g2 : Gl Y "zip") (m1 : Y.mg "tuple" = none) (m2 : Y.mg "zip" = none)
    (e1 : starEach [a, b] Y.env = (false, eval a Y.env) :: starEach [b] Y.env := by rfl) (e2 : (backTo p3 (starEach [b] Y.env)).any (·.1) = false := by rfl) (e3 : starEach [.Call (.Name "zip" p2) [a, b] [] p3] Y.env = [(false, eval (.Call (.Name "zip" p2) [a, b] [] p3) Y.env)] := by rfl) :
    PE Y (.Call (.Name "tuple" p1) [.Call (.Name "zip" p2) [a, b] [] p3] [] p4) (tTupZip t) := by
  refine ⟨fun pins s σ H Q I h => wpAny_Call_Name_kw (ld_blt I g1 m1 PyProof.Rows.boot_tuple ?_)⟩
  refine PyProof.Rows.callWith_type1 ?_ e3 rfl
  rw [e3]
  refine Calls.spliced_cons (wpAny_Call_Name_kw (ld_blt I g2 m2 PyProof.Rows.boot_zip ?_))
  refine PyProof.Rows.callWith_type1 (thn (ha.run p3 pins s σ H _ I h) fun us s1 hv => ?_) e1 e2
  obtain ⟨vs, H1, I1, r1, x, y, rfl, hl, hz, q⟩ := hv
  obtain ⟨u1, u2, rfl, ⟨t1, rfl⟩, ⟨t2, rfl⟩⟩ := vals2 r1
  refine zip_begins2 (begins_text x t1) (begins_text y t2) trivial trivial fun h1 hZ hI hO o1 o2 sz kp => Calls.spliced_nil ?_
  have hh := I1.ok.hd hc
  have S : ZipSep2 (s1.heap.objs.size + 4) (s1.heap.objs.size + 2) (s1.heap.objs.size + 3) s1.heap.objs.size (s1.heap.objs.size + 1) [s1.heap.objs.size] [s1.heap.objs.size + 1] := by
    constructor <;> first | omega | simp
  have ey : y.cps.size = x.cps.size := hl.symm
  have D2 : Draws Y.prog Y.w Y.A.in1.in1.in1.in1 (s1.heap.objs.size + 1) [s1.heap.objs.size + 1] x.cps.size (fun i v => ∃ c u, y.cps[i]? = some c ∧ v = .str ⟨#[c]⟩ u) (fun i h => h.IsStrIter (s1.heap.objs.size + 1) (strIterType y) y t2 i) := by
    have := Draws.text (prog := Y.prog) (w := Y.w) (A := Y.A.in1.in1.in1.in1) hh (s1.heap.objs.size + 1) y t2
    rw [ey] at this
    exact this
  refine VZ.call_tup (s := { s1 with heap := h1 }) S (Draws.text (A := Y.A.in1.in1.in1.in1) hh s1.heap.objs.size x t1) D2 (fun c hc => ?_) hz hI hZ ⟨_, _, hO⟩ ⟨_, o1, rfl, rfl⟩ ⟨_, o2, rfl, rfl⟩ fun h2 tk acc hk hg => ?_
  · show c < h1.objs.size
    rw [sz]
    simp only [List.mem_cons, List.mem_append, List.not_mem_nil, or_false] at hc
    rcases hc with rfl | rfl | rfl | rfl | rfl | rfl | rfl
    · exact Nat.lt_succ_self _
    · exact Nat.add_lt_add_left (by decide) _
    · exact Nat.add_lt_add_left (by decide) _
    · exact Nat.lt_add_of_pos_right (by decide)
    · exact Nat.add_lt_add_left (by decide) _
    · exact Nat.lt_add_of_pos_right (by decide)
    · exact Nat.add_lt_add_left (by decide) _
  obtain ⟨hF, eF⟩ : ∃ hF, hF = h2.push { cls := .type "tuple", data := .seq acc } := ⟨_, rfl⟩
  have k2 : ∀ c o, h2.get? c = some o → hF.get? c = some o := fun c o e => by rw [eF]; exact Heap.get?_push_of_some _ e
  have kF : ∀ c o, s1.heap.get? c = some o → hF.get? c = some o := fun c o e => by
    have lt := Heap.lt_size e
    exact k2 _ _ (hk c o (Nat.ne_of_lt (Nat.lt_add_right 4 lt)) (Nat.ne_of_lt (Nat.lt_add_right 3 lt)) (Nat.ne_of_lt lt) (Nat.ne_of_lt (Nat.lt_add_right 1 lt)) (kp c o e))
  have big : s1.heap.objs.size ≤ h2.objs.size := by
    have add : ∀ i j : Nat, i < j → s1.heap.objs.size + i ≠ s1.heap.objs.size + j := fun i j h => Nat.ne_of_lt (Nat.add_lt_add_left h _)
    have e0 : h2.get? (s1.heap.objs.size + 2) = some _ := hk _ _ (add 2 4 (by decide)) (add 2 3 (by decide)) (add 0 2 (by decide)).symm (add 1 2 (by decide)).symm hI
    exact Nat.le_trans (Nat.le_add_right _ 2) (Nat.le_of_lt (Heap.lt_size e0))
  obtain ⟨Ts, eT⟩ : ∃ Ts, Ts = acc.toList.map refD := ⟨_, rfl⟩
  have hacc : ∀ j v, acc[j]? = some v → ∃ T c d u1 u2, v = Value.ref T ∧ h1.objs.size ≤ T ∧ x.cps[j]? = some c ∧ y.cps[j]? = some d ∧ IsTupOf2 h2 T (.str ⟨#[c]⟩ u1) (.str ⟨#[d]⟩ u2) := fun j v hj => by
    obtain ⟨T, v1, v2, e0, e1, ⟨c, u1, e2, rfl⟩, ⟨d, u2, e3, rfl⟩, e4⟩ := hg.2 j v hj
    exact ⟨T, c, d, u1, u2, e0, e1, e2, e3, e4⟩
  obtain ⟨H2, eH⟩ : ∃ H2 : Hp, H2 = fun b => if b < s1.heap.objs.size then H1 b else if b = h2.objs.size then some (.tup (Ts.map V.ref)) else dec hF b := ⟨_, rfl⟩
  have H2old : ∀ b, b < s1.heap.objs.size → H2 b = H1 b := fun b hb => by rw [eH]; exact if_pos hb
  have H2T : H2 h2.objs.size = some (.tup (Ts.map V.ref)) := by
    rw [eH]
    show (if h2.objs.size < s1.heap.objs.size then H1 h2.objs.size else if h2.objs.size = h2.objs.size then some (.tup (Ts.map V.ref)) else dec hF h2.objs.size) = _
    rw [if_neg (Nat.not_lt.mpr big), if_pos rfl]
  have H2n : ∀ b, s1.heap.objs.size ≤ b → b ≠ h2.objs.size → H2 b = dec hF b := fun b hb hne => by
    rw [eH]
    show (if b < s1.heap.objs.size then H1 b else if b = h2.objs.size then some (.tup (Ts.map V.ref)) else dec hF b) = _
    rw [if_neg (Nat.not_lt.mpr hb), if_neg hne]
  have rel : Vals (Ts.map V.ref) acc.toList := by
    rw [eT]
    have : ∀ l : List Value, (∀ v ∈ l, ∃ T, v = Value.ref T) → Vals ((l.map refD).map V.ref) l := by
      intro l
      induction l with
      | nil => exact fun _ => .nil
      | cons v l ih =>
        intro hv
        obtain ⟨T, rfl⟩ := hv v (by simp)
        exact .cons rfl (ih fun v' h' => hv v' (by simp [h']))
    refine this _ fun v hv => ?_
    obtain ⟨j, hj⟩ := List.getElem?_of_mem hv
    obtain ⟨T, _, _, _, _, e0, _⟩ := hacc j v (by simpa using hj)
    exact ⟨T, e0⟩
  have lenT : Ts.length = x.length := by rw [eT, List.length_map, Array.length_toList, hg.1]; rfl
  have I2 : Inv Y pins σ H2 { s1 with heap := hF, toks := tk } := by
    refine inv_add I1 kF H2old fun b o hb e => ?_
    by_cases hne : b = h2.objs.size
    · rw [hne, H2T] at e
      cases e
      rw [hne]
      exact ⟨by rw [List.length_map, lenT]; exact hz, acc.toList, rel, by rw [eF]; simpa using IsTup.new h2 acc⟩
    · rw [H2n b hb hne] at e
      obtain ⟨x', y', t', u', e1, rfl⟩ := dec_of e
      exact ⟨show 2 ≤ sizeLine by decide, [.str x' t', .str y' u'], .cons ⟨_, rfl⟩ (.cons ⟨_, rfl⟩ .nil), ⟨_, e1, rfl, _, rfl⟩⟩
  have q := q H2 h2.objs.size Ts (fun b o e => by rw [H2old b (I1.hok.lt e)]; exact e) (I1.hok.fresh big) H2T lenT fun j A hj => ?_
  · rw [eF] at I2
    exact ⟨V.ref h2.objs.size, H2, I2, rfl, q⟩
  · rw [eT, List.getElem?_map] at hj
    obtain ⟨v, hv, rfl⟩ := Option.map_eq_some_iff.mp hj
    obtain ⟨T, c, d, w1, w2, rfl, e1, e2, e3, e4⟩ := hacc j v (by simpa using hv)
    show H1 T = none ∧ H2 T = _
    have hT : s1.heap.objs.size ≤ T := by
      rw [sz] at e1
      exact Nat.le_trans (Nat.le_add_right _ 5) e1
    refine ⟨I1.hok.fresh hT, ?_⟩
    have hlt : T < h2.objs.size := Heap.lt_size e4
    rw [H2n T hT (Nat.ne_of_lt hlt), dec_at (k2 _ _ e4)]
    unfold pairV
    have g2 : x.cps.getD j 0 = c := by rw [Array.getD_eq_getD_getElem?, e2]; rfl
    have g3 : y.cps.getD j 0 = d := by rw [Array.getD_eq_getD_getElem?, e3]; rfl
    rw [g2, g3]
end
section
variable {ι : Type} {X : ι → Cx} {k : Nat} {P : Program} {w : World} {K : PySem.W.Frag} {mg : Str → Option Value} {base : Heap} {W : WX} {a b : Expr} {p1 p2 p3 p4 : Pos}
def zipS : List Nat → List Nat → List Dt
  | c :: cs, d :: ds => .tuple [signD c, signD d] :: zipS cs ds
  | _, _ => []
theorem zipS_len : ∀ {cs ds : List Nat}, (zipS cs ds).length = min cs.length ds.length
  | [], _ => by simp [zipS]
  | _ :: _, [] => by simp [zipS]
  | c :: cs, d :: ds => by simp only [zipS, List.length_cons, zipS_len]; omega
theorem zipS_get : ∀ {cs ds : List Nat} {i : Nat} {d : Dt}, (zipS cs ds)[i]? = some d → ∃ c e, cs[i]? = some c ∧ ds[i]? = some e ∧ d = .tuple [signD c, signD e]
  | [], _, _, _, h => by simp [zipS] at h
  | _ :: _, [], _, _, h => by simp [zipS] at h
  | c :: cs, e :: ds, 0, _, h => ⟨c, e, rfl, rfl, by simpa [zipS] using h.symm⟩
  | c :: cs, e :: ds, i + 1, _, h => by
    obtain ⟨c', e', h1, h2, h3⟩ := zipS_get (cs := cs) (ds := ds) (i := i) (by simpa [zipS] using h)
    exact ⟨c', e', by simpa using h1, by simpa using h2, h3⟩
theorem rpa_of {H : Hp} : ∀ {ds : List Dt} {xs : List V}, xs.length = ds.length → (∀ (j : Nat) (x : V) (d : Dt), xs[j]? = some x → ds[j]? = some d → Rp K H x d) → RpA K H xs ds
  | [], [], _, _ => .nil
  | [], _ :: _, e, _ => by simp at e
  | _ :: _, [], e, _ => by simp at e
  | d :: ds, x :: xs, e, h => .cons (h 0 x d rfl rfl) (rpa_of (by simpa using e) fun j y f h1 h2 => h (j + 1) y f (by simpa using h1) (by simpa using h2))
def mTupZip (m : SS → EO (List Dt)) : SS → EO Dt := fun ss => (m ss).bind fun ds ss => match ds with
  | [.str x, .str y] => if x.length = y.length ∧ x.length ≤ sizeLine then .ok (.tuple (zipS x.cps.toList y.cps.toList)) ss else .no
  | _ => .no
theorem v_tupZip (C : VC X k P w K mg base W) {m : SS → EO (List Dt)} (h : VA X K mg W [a, b] m) (g1 : ∀ i, Gl (X i) "tuple") (g2 : ∀ i, Gl (X i) "zip") (m1 : mg "tuple" = none) (m2 : mg "zip" = none)
    (e1 : ∀ i, starEach [a, b] (X i).env = (false, eval a (X i).env) :: starEach [b] (X i).env := by intro _; rfl) (e2 : ∀ i, (backTo p3 (starEach [b] (X i).env)).any (·.1) = false := by intro _; rfl) (e3 : ∀ i, starEach [.Call (.Name "zip" p2) [a, b] [] p3] (X i).env = [(false, eval (.Call (.Name "zip" p2) [a, b] [] p3) (X i).env)] := by intro _; rfl) :
    VE X K mg W (.Call (.Name "tuple" p1) [.Call (.Name "zip" p2) [a, b] [] p3] [] p4) (mTupZip m) := by
  obtain ⟨t, a1, a2⟩ := h.ex
  refine ⟨tTupZip t, fun i => pe_tupZip (a1 i) (C.ca i) (g1 i) (g2 i) (by rw [C.em i]; exact m1) (by rw [C.em i]; exact m2) (e1 i) (e2 i) (e3 i), fun ω ss σ H Q rs q => a2 ω ss σ H _ rs ?_⟩
  refine seqE q fun ds ss1 ω1 H1 vs em rs1 fr1 rp1 q1 => ?_
  split at q1
  · rename_i x y
    split at q1
    · rename_i hc
      cases rp1 with
      | cons r1 r2 =>
        cases r2 with
        | cons r2 r3 =>
          cases r3
          cases r1
          cases r2
          refine ⟨x, y, rfl, hc.1, hc.2, fun H2 T Ts hs hT hT2 hl hp => ?_⟩
          have oT : ∀ A, H1 A = none → hid ω1 H2 A = H2 A := fun A hA => hid_of (rs1.free hA)
          refine q1 ω1 H2 _ (rs1.grow hs) (.grow hs rs1.own) (.tup (.of ((oT T hT).trans hT2)) (rpa_of ?_ fun j v d h1 h2 => ?_))
          · rw [List.length_map, hl, zipS_len]
            have e1 : x.cps.toList.length = x.length := by simp [Str.length]
            have e2 : y.cps.toList.length = y.length := by simp [Str.length]
            rw [e1, e2, ← hc.1, Nat.min_self]
          · rw [List.getElem?_map] at h1
            obtain ⟨A, hA, rfl⟩ := Option.map_eq_some_iff.mp h1
            obtain ⟨n1, n2⟩ := hp j A hA
            obtain ⟨c, e, g1, g2, rfl⟩ := zipS_get h2
            have f1 : x.cps.getD j 0 = c := by rw [Array.getD_eq_getD_getElem?, show x.cps[j]? = some c by simpa using g1]; rfl
            have f2 : y.cps.getD j 0 = e := by rw [Array.getD_eq_getD_getElem?, show y.cps[j]? = some e by simpa using g2]; rfl
            refine .tup (.of ((oT A n1).trans n2)) ?_
            unfold pairV
            rw [f1, f2]
            exact .cons (.str _) (.cons (.str _) .nil)
    · exact q1.elim
  · exact q1.elim
end
end VL

namespace VL
open PySem PySem.Spec L2
open PyProof.Rows hiding St
variable [WW]

theorem key_reads {h : Heap} {k : Key} {v : Value} (e : keyIs k v = true) : Reads h v (keyD k) [] := by
  rcases keyIs_shape e with ⟨i, t, rfl, rfl⟩ | ⟨x, t, rfl, rfl⟩
  · exact .int i t
  · exact .str x t
section
variable {X : Cx} {pins : List (Addr × Obj)} {σ : St} {H : Hp} {s : Shared}
/-- what is shown of it is known -/
def Sh (X : Cx) (h : Heap) (u : Value) (d : Dt) (as bs : List Addr) : Prop := Reads h u d as ∧ ReadAtMost h d.depth bs ∧ ReprK X.prog X.w bs h d.depth u d.shown
def ShA (X : Cx) (h : Heap) (us : List Value) (ds : List Dt) (as bs : List Addr) : Prop := ReadsAll h us ds as ∧ ReadAtMost h (PyData.depthAll ds) bs ∧ ReprAllK X.prog X.w bs h (PyData.depthAll ds) us (PyData.shownAll ds)
theorem sh_nil {X : Cx} {h : Heap} : ShA X h [] [] [] [] := ⟨.nil, fun _ z => (nomatch z), .nil⟩
theorem sh_cons {X : Cx} {h : Heap} {u : Value} {d : Dt} {us : List Value} {ds : List Dt} {as bs as' bs' : List Addr} (p : Sh X h u d as bs) (q : ShA X h us ds as' bs') : ShA X h (u :: us) (d :: ds) (as ++ as') (bs ++ bs') := by
  obtain ⟨p1, p2, p3⟩ := p
  obtain ⟨q1, q2, q3⟩ := q
  have m1 : d.depth ≤ PyData.depthAll (d :: ds) := by simp only [PyData.depthAll]; exact Nat.le_max_left _ _
  have m2 : PyData.depthAll ds ≤ PyData.depthAll (d :: ds) := by simp only [PyData.depthAll]; exact Nat.le_max_right _ _
  refine ⟨.cons p1 q1, (p2.mono m1).append (q2.mono m2), ?_⟩
  have e : PyData.shownAll (d :: ds) = d.shown :: PyData.shownAll ds := by simp only [PyData.shownAll]
  rw [e]
  exact .cons ((p3.more fun b z => List.mem_append.mpr (.inl z)).level_le m1) (q3.more_le (fun b z => List.mem_append.mpr (.inr z)) m2)
theorem sh_flat {X : Cx} {h : Heap} {u : Value} {d : Dt} (r : Reads h u d []) (hs : d.showable = true) (hz : d.shown.length ≤ sizeLine) : ∃ as bs, Sh X h u d as bs :=
  let ⟨bs, q1, q2⟩ := ReprK.of_reads r hs (fun _ => by simp) hz
  ⟨[], bs, r, q1, q2⟩
mutual
/-- no instance within, no dict with tuples as keys -/
def plainD : Dt → Bool
  | .list ds => plainA ds
  | .tuple ds => plainA ds
  | .dict ds => isK ds && plainK ds
  | .none => true
  | .bool _ => true
  | .int _ => true
  | .str _ => true
def plainA : List Dt → Bool
  | [] => true
  | d :: ds => plainD d && plainA ds
def plainK : List (Dt × Dt) → Bool
  | [] => true
  | (_, d) :: ds => plainD d && plainK ds
end
mutual
theorem Rp.sh (I : Inv X pins σ H s) : ∀ (d : Dt) (v : V) (u : Value), Rp X.K H v d → RelV v u → plainD d = true → d.showable = true → d.shown.length ≤ sizeLine → ∃ as bs, Sh X s.heap u d as bs
  | .none, _, _, h, r, hp, hs, hz => by cases h; cases r; exact sh_flat .none hs hz
  | .bool b, _, _, h, r, hp, hs, hz => by cases h; cases r; exact sh_flat (.bool b) hs hz
  | .int i, _, _, h, r, hp, hs, hz => by cases h; obtain ⟨t, rfl⟩ := r; exact sh_flat (.int i t) hs hz
  | .str x, _, _, h, r, hp, hs, hz => by cases h; obtain ⟨t, rfl⟩ := r; exact sh_flat (.str x t) hs hz
  | .list ds, _, _, h, r, hp, hs, hz => by
    cases h with
    | lst hl ha =>
      cases r
      obtain ⟨its, rv, ⟨o, n, e1, e2, _, e3⟩, _⟩ := I.list (.of hl)
      have hs : PyData.showableAll ds = true := by simpa [PyData.showable] using hs
      have ex : (PyData.list ds).shown = listText (PyData.shownAll ds) := by simp only [PyData.shown]
      have ed : (PyData.list ds).depth = PyData.depthAll ds + 1 := by simp only [PyData.depth]
      rw [ex] at hz
      obtain ⟨as, bs, q1, q2, q3⟩ := RpA.sh I ds _ its ha rv (by simpa [plainD] using hp) hs (fun t z => Nat.le_trans (listText_mem_le z) hz)
      have r := Reads.list e1 e2 e3 q1
      have na := not_mem_of_deeper (n := PyData.depthAll ds) r (by omega) q2
      refine ⟨_, _, r, ReadAtMost.cons r (n := PyData.depthAll ds) (by omega) q2, ?_⟩
      rw [ex, ed]
      cases its with
      | nil =>
        cases q1
        have : listText (PyData.shownAll []) = "[]" := rfl
        rw [this]
        exact ReprK.listEmpty e1 e2 e3
      | cons y its => exact ReprK.list e1 e2 e3 na (by simpa using q3.length_eq) (fun i y e => q3.item i y (by simpa using e))
  | .tuple ds, _, _, h, r, hp, hs, hz => by
    cases h with
    | tup hl ha =>
      cases r
      obtain ⟨its, rv, ⟨o, e1, e2, n, e3⟩, _⟩ := I.tuple hl
      have hs : PyData.showableAll ds = true := by simpa [PyData.showable] using hs
      have ex : (PyData.tuple ds).shown = tupleText (PyData.shownAll ds) := by simp only [PyData.shown]
      have ed : (PyData.tuple ds).depth = PyData.depthAll ds + 1 := by simp only [PyData.depth]
      rw [ex] at hz
      obtain ⟨as, bs, q1, q2, q3⟩ := RpA.sh I ds _ its ha rv (by simpa [plainD] using hp) hs (fun t z => Nat.le_trans (tupleText_mem_le z) hz)
      have r := Reads.tuple e1 e2 e3 q1
      have na := not_mem_of_deeper (n := PyData.depthAll ds) r (by omega) q2
      refine ⟨_, _, r, ReadAtMost.cons r (n := PyData.depthAll ds) (by omega) q2, ?_⟩
      rw [ex, ed]
      exact ReprK.tuple e1 e2 e3 na q3
  | .dict ds, _, _, h, r, hp, hs, hz => by
    have hp : isK ds = true ∧ plainK ds = true := by simpa [plainD] using hp
    cases h with
    | dN h1 hn h2 => rw [h2.isK hn] at hp; cases hp.1
    | ob h1 h2 => cases hp.1
    | @dK a kvs _ hl ha =>
      cases r
      obtain ⟨_, hsm, vs, rel, o, es, ep, e1, ec, e2, _, pr, _⟩ := (show ObjOk X.prog X.w H s.heap a (.dK kvs) from I.hok a _ hl)
      obtain ⟨hs1, hs2⟩ := PyData.showableKv_split ds (by simpa [PyData.showable] using hs)
      have ex : (PyData.dict ds).shown = dictText (PyData.shownKv ds) := by simp only [PyData.shown]
      have ed : (PyData.dict ds).depth = PyData.depthKv ds + 1 := by simp only [PyData.depth]
      rw [ex] at hz
      obtain ⟨bs, q1, q2⟩ := RpK.sh I ds _ vs es.toList ha rel pr hp.2 hs1 hs2 (fun p z => Nat.le_trans (dictText_mem_le z) hz)
      obtain ⟨as, l1, l2, l3⟩ := q2
      obtain ⟨b1, k2, k3⟩ := ReprAllK.of_readsAll (prog := X.prog) (w := X.w) q1 hs1 (fun _ => by simp) (fun t z => let ⟨p, hp, hl⟩ := PyData.shownKv_key_le ds t z; Nat.le_trans hl (Nat.le_trans (dictText_mem_le hp) hz))
      have r := Reads.dict e1 ec.1 e2 q1 l1
      have hb : ReadAtMost s.heap (PyData.depthKv ds) (b1 ++ bs) := (k2.mono (PyData.depthAll_keys_le ds)).append (l2.mono (PyData.depthAll_vals_le ds))
      have na := not_mem_of_deeper (n := PyData.depthKv ds) r (by omega) hb
      refine ⟨_, _, r, ReadAtMost.cons r (n := PyData.depthKv ds) (by omega) hb, ?_⟩
      rw [ex, ed, PyData.shownKv_eq]
      have m1 := k3.more_le (as' := b1 ++ bs) (fun b z => List.mem_append.mpr (.inl z)) (PyData.depthAll_keys_le ds)
      have m2 := l3.more_le (as' := b1 ++ bs) (fun b z => List.mem_append.mpr (.inr z)) (PyData.depthAll_vals_le ds)
      exact ReprK.dict e1 ec.1 e2 hsm na (ReprEntriesK.of_two es.toList _ _ m1 m2)
theorem RpA.sh (I : Inv X pins σ H s) : ∀ (ds : List Dt) (vs : List V) (us : List Value), RpA X.K H vs ds → Vals vs us → plainA ds = true → PyData.showableAll ds = true → (∀ t ∈ PyData.shownAll ds, t.length ≤ sizeLine) → ∃ as bs, ShA X s.heap us ds as bs
  | [], _, _, h, r, _, _, _ => by cases h; cases r; exact ⟨_, _, sh_nil⟩
  | d :: ds, _, _, h, r, hp, hs, hz => by
    have hp : plainD d = true ∧ plainA ds = true := by simpa [plainA] using hp
    have hs : d.showable = true ∧ PyData.showableAll ds = true := by simpa [PyData.showableAll] using hs
    have e : PyData.shownAll (d :: ds) = d.shown :: PyData.shownAll ds := by simp only [PyData.shownAll]
    rw [e] at hz
    cases h with
    | cons h1 h2 =>
      cases r with
      | cons r1 r2 =>
        obtain ⟨as, bs, q1⟩ := Rp.sh I d _ _ h1 r1 hp.1 hs.1 (hz _ (by simp))
        obtain ⟨as', bs', q2⟩ := RpA.sh I ds _ _ h2 r2 hp.2 hs.2 (fun t z => hz t (by simp [z]))
        exact ⟨_, _, sh_cons q1 q2⟩
theorem RpK.sh (I : Inv X pins σ H s) : ∀ (ds : List (Dt × Dt)) (kvs : List (Key × V)) (vs : List (Key × Value)) (es : List DictEntry), RpK X.K H kvs ds → KV kvs vs → Pairs (mixKind X.prog X.w) es vs → plainK ds = true →
    PyData.showableAll (ds.map (·.1)) = true → PyData.showableAll (ds.map (·.2)) = true → (∀ t ∈ PyData.shownKv ds, t.length ≤ sizeLine) →
    ∃ bs, ReadsAll s.heap (es.map (·.key)) (ds.map (·.1)) [] ∧ ∃ as, ShA X s.heap (es.map (·.val)) (ds.map (·.2)) as bs
  | [], _, _, _, h, r, p, _, _, _, _ => by cases h; cases r; cases p; exact ⟨_, .nil, _, sh_nil⟩
  | (k0, d) :: ds, _, _, _, h, r, p, hp, hs1, hs2, hz => by
    have hpp : plainD d = true ∧ plainK ds = true := by simpa [plainK] using hp
    have g1 : PyData.showable k0 = true ∧ PyData.showableAll (ds.map (·.1)) = true := by simpa [PyData.showableAll] using hs1
    have g2 : d.showable = true ∧ PyData.showableAll (ds.map (·.2)) = true := by simpa [PyData.showableAll] using hs2
    have hl : d.shown.length ≤ sizeLine := by
      obtain ⟨p, hp, hl⟩ := PyData.shownKv_val_le ((k0, d) :: ds) d.shown (by simp [PyData.shownAll])
      exact Nat.le_trans hl (hz p hp)
    have hz' : ∀ t ∈ PyData.shownKv ds, t.length ≤ sizeLine := fun t z => hz t (by simp [PyData.shownKv, z])
    cases h with
    | cons h1 h2 =>
      cases r with
      | @cons _ q _ _ r1 r2 =>
        obtain ⟨k', u'⟩ := q
        obtain ⟨ek, ru⟩ := r1
        have ek := ek
        cases p with
        | cons p1 p2 p3 =>
          obtain ⟨bs, q1, as, q2⟩ := RpK.sh I ds _ _ _ h2 r2 p3 hpp.2 g1.2 g2.2 hz'
          obtain ⟨as', bs', q3⟩ := Rp.sh I d _ _ h1 ru hpp.1 g2.1 hl
          simp only at ek p1 p2
          subst ek
          refine ⟨bs' ++ bs, ?_, as' ++ as, ?_⟩
          · exact ReadsAll.cons (as := []) (bs := []) (key_reads p1) q1
          · rw [← p2] at q3
            exact sh_cons q3 q2
end
end
def canRepr (d : Dt) : Bool := plainD d && d.showable && decide (d.depth ≤ 100) && decide (d.shown.length ≤ sizeLine)
def rRepr (K : PySem.W.Frag) : List V → Hp → VK → Prop := fun xs H Q => ∃ x d, xs = [x] ∧ Rp K H x d ∧ canRepr d = true ∧ Q (.str d.shown) H
theorem call_repr {X : Cx} (hg : X.A.guards = some []) (hu : X.A.units + 200 < cLine) : CallR X (.builtin "repr") (rRepr X.K) := by
  intro pins s σ H xs us Q I r h
  obtain ⟨x, d, rfl, hd, hc, q⟩ := h
  unfold canRepr at hc
  simp only [Bool.and_eq_true, decide_eq_true_eq] at hc
  obtain ⟨⟨⟨c0, c1⟩, c3⟩, c4⟩ := hc
  obtain ⟨u, rfl, r1⟩ := vals1 r
  have hQ : ∀ (h' : Heap) (t : Tok) (tk : Nat), (∀ b o, s.heap.get? b = some o → h'.get? b = some o) → EP X pins σ Q (.str d.shown t) { s with heap := h', toks := tk } := fun h' t tk kp => ⟨.str d.shown, H, I.kept (t' := tk) kp, ⟨_, rfl⟩, q⟩
  have hu1 : X.A.in1.units + d.depth < cLine := by show X.A.units + 1 + d.depth < cLine; omega
  cases hd with
  | non => cases r1; exact PySem.P.repr_of_none ⟨.str _, H, I.tok _, ⟨_, rfl⟩, by simpa [PyData.shown] using q⟩
  | bl b => cases r1; exact PySem.P.repr_of_bool ⟨.str _, H, I.tok _, ⟨_, rfl⟩, by simpa [PyData.shown] using q⟩
  | int i =>
    obtain ⟨t, rfl⟩ := r1
    exact PySem.P.repr_of_int (by simpa [PyData.showable] using c1) ⟨.str _, H, I.tok _, ⟨_, rfl⟩, by simpa [PyData.shown] using q⟩
  | str z =>
    obtain ⟨t, rfl⟩ := r1
    exact PySem.P.repr_of_str ⟨.str _, H, I.tok _, ⟨_, rfl⟩, by simpa [PyData.shown] using q⟩ (by simpa [PyData.shown] using c4)
  | @lst a xs ds hl ha =>
    cases r1
    obtain ⟨its, rv, ⟨o, n, e1, e2, _, e3⟩, _⟩ := I.list (.of hl)
    have ex : (PyData.list ds).shown = listText (PyData.shownAll ds) := by simp only [PyData.shown]
    have ed : (PyData.list ds).depth = PyData.depthAll ds + 1 := by simp only [PyData.depth]
    rw [ex] at c4 hQ
    rw [ed] at hu1
    obtain ⟨as, bs, q1, q2, q3⟩ := RpA.sh I ds _ its ha rv (by simpa [plainD] using c0) (by simpa [PyData.showable] using c1) (fun t z => Nat.le_trans (listText_mem_le z) c4)
    have rd := Reads.list e1 e2 e3 q1
    have na := not_mem_of_deeper (n := PyData.depthAll ds) rd (by omega) q2
    refine call_repr_slot (by omega) ⟨o, e1, e2⟩ F.slot_list_repr.toG ?_
    cases its with
    | nil =>
      cases q1
      exact call_list_repr_empty ⟨o, e1, e2⟩ e1 e3 ⟨_, _, rfl, hQ s.heap _ _ fun _ _ e => e⟩
    | cons y its => exact call_list_reprK e1 e2 e3 na (by simpa using q3.length_eq) (fun i y e => q3.item i y (by simpa using e)) hg (fun b _ => Clear.nil b) hu1 (fun _ _ e => e) (fun h' t tk kp => ⟨_, _, rfl, hQ h' t tk kp⟩) c4
  | @tup a xs ds hl ha =>
    cases r1
    obtain ⟨its, rv, ⟨o, e1, e2, n, e3⟩, _⟩ := I.tuple hl
    have ex : (PyData.tuple ds).shown = tupleText (PyData.shownAll ds) := by simp only [PyData.shown]
    have ed : (PyData.tuple ds).depth = PyData.depthAll ds + 1 := by simp only [PyData.depth]
    rw [ex] at c4 hQ
    rw [ed] at hu1
    obtain ⟨as, bs, q1, q2, q3⟩ := RpA.sh I ds _ its ha rv (by simpa [plainD] using c0) (by simpa [PyData.showable] using c1) (fun t z => Nat.le_trans (tupleText_mem_le z) c4)
    have rd := Reads.tuple e1 e2 e3 q1
    have na := not_mem_of_deeper (n := PyData.depthAll ds) rd (by omega) q2
    refine call_repr_slot (by omega) ⟨o, e1, e2⟩ F.slot_tuple_repr ?_
    exact call_tuple_reprK e1 e2 e3 na q3 hg (fun b _ => Clear.nil b) hu1 (fun _ _ e => e) (fun h' t tk kp => ⟨_, _, rfl, hQ h' t tk kp⟩) c4
  | dN h1 hn h2 =>
    simp only [plainD, h2.isK hn, Bool.false_and] at c0
    cases c0
  | ob h1 h2 => cases c0
  | @dK a kvs ds hl ha =>
    have c0 : isK ds = true ∧ plainK ds = true := by simpa [plainD] using c0
    cases r1
    obtain ⟨_, hsm, vs, rel, o, es, ep, e1, ec, e2, _, pr, _⟩ := (show ObjOk X.prog X.w H s.heap a (.dK kvs) from I.hok a _ hl)
    obtain ⟨hs1, hs2⟩ := PyData.showableKv_split ds (by simpa [PyData.showable] using c1)
    have ex : (PyData.dict ds).shown = dictText (PyData.shownKv ds) := by simp only [PyData.shown]
    have ed : (PyData.dict ds).depth = PyData.depthKv ds + 1 := by simp only [PyData.depth]
    rw [ex] at c4 hQ
    rw [ed] at hu1
    obtain ⟨bs, q1, as, l1, l2, l3⟩ := RpK.sh I ds _ vs es.toList ha rel pr c0.2 hs1 hs2 (fun p z => Nat.le_trans (dictText_mem_le z) c4)
    obtain ⟨b1, k2, k3⟩ := ReprAllK.of_readsAll (prog := X.prog) (w := X.w) q1 hs1 (fun _ => by simp) (fun t z => let ⟨p, hp, hl⟩ := PyData.shownKv_key_le ds t z; Nat.le_trans hl (Nat.le_trans (dictText_mem_le hp) c4))
    have rd := Reads.dict e1 ec.1 e2 q1 l1
    have hb : ReadAtMost s.heap (PyData.depthKv ds) (b1 ++ bs) := (k2.mono (PyData.depthAll_keys_le ds)).append (l2.mono (PyData.depthAll_vals_le ds))
    have na := not_mem_of_deeper (n := PyData.depthKv ds) rd (by omega) hb
    have m1 := k3.more_le (as' := b1 ++ bs) (fun b z => List.mem_append.mpr (.inl z)) (PyData.depthAll_keys_le ds)
    have m2 := l3.more_le (as' := b1 ++ bs) (fun b z => List.mem_append.mpr (.inr z)) (PyData.depthAll_vals_le ds)
    refine call_repr_slot (by omega) ⟨o, e1, ec.1⟩ F.slot_dict_repr ?_
    rw [PyData.shownKv_eq] at c4 hQ
    exact call_dict_reprK e1 ec.1 e2 hsm na (ReprEntriesK.of_two es.toList _ _ m1 m2) hg (fun b _ => Clear.nil b) hu1 (fun _ _ e => e) (fun h' t tk kp => ⟨_, _, rfl, hQ h' t tk kp⟩) c4
section
variable {ι : Type} {X : ι → Cx} {k : Nat} {P : Program} {w : World} {K : PySem.W.Frag} {mg : Str → Option Value} {base : Heap} {W : WX} {a b : Expr} {p1 p2 p3 p4 pos : Pos}
def fRepr : List Dt → Option Dt
  | [d] => if canRepr d = true then some (.str d.shown) else none
  | _ => none
theorem u_repr (C : VC X k P w K mg base W) : BuS X K (.builtin "repr") fRepr := by
  refine ⟨rRepr K, fun i => by rw [← C.eK i]; exact call_repr (C.gd i) (by have := (C.rm i).un; omega), fun ω ss σ H xs ds z Q rs bx hf q => ?_⟩
  unfold fRepr at hf
  split at hf
  · split at hf
    · rename_i hc
      cases hf
      obtain ⟨x, rfl, b1⟩ := bor1 bx
      exact ⟨x, _, rfl, b1.rp, hc, q H _ (Same.refl _) (.str _)⟩
    · cases hf
  · cases hf

def padS (x : Str) (i : Int) (c : Nat) : Str := if i ≤ x.length then x else Builtin.Str.padded x 0 (i.toNat - x.length) c
theorem gives_pad (x : Str) (i : Int) (c : Nat) (t u v : Tok) (hr : (decide (i < -(2 ^ 63 : Int)) || decide (i ≥ 2 ^ 63)) = false) (hl : Builtin.Str.tooLong i.toNat = false) :
    Gives (Builtin.«str.ljust» ⟨[.str x t, .int i u, .str ⟨#[c]⟩ v], []⟩) (if i ≤ x.length then .val (.str x t) else .str (Builtin.Str.padded x 0 (i.toNat - x.length) c)) := by
  show Gives (do
    let width ← Builtin.Str.asSsize s!"str.{"ljust"}" (.int i u)
    if width ≤ x.length then (do rule s!"str.{"ljust"}.long-enough"; ret (.str x t)) else
      if Builtin.Str.tooLong width.toNat = true then unsupported s!"str.{"ljust"}:memory" else PySem.retStr (Builtin.Str.padded x 0 (width.toNat - x.length) c)) _
  rw [asSsize_int _ _ _ hr]
  show Gives (if i ≤ x.length then (do rule s!"str.{"ljust"}.long-enough"; ret (.str x t)) else if Builtin.Str.tooLong i.toNat = true then unsupported s!"str.{"ljust"}:memory" else PySem.retStr (Builtin.Str.padded x 0 (i.toNat - x.length) c)) _
  rw [hl]
  by_cases h : i ≤ (x.length : Int)
  · rw [if_pos h, if_pos h]
    exact .rule (.of_eq rfl)
  · rw [if_neg h, if_neg h]
    exact .of_eq rfl
def fLjust : List Dt → Option Dt
  | [.str x, .int i, .str ⟨⟨[c]⟩⟩] => if PadOk i = true then some (.str (padS x i c)) else none
  | _ => none
theorem u_ljust2 : MuS X K "str.ljust" fLjust := by
  refine ⟨fun x xs H Q => ∃ (a : Str) (i : Int) (c : Nat), x = .str a ∧ xs = [.int i, .str ⟨#[c]⟩] ∧ PadOk i = true ∧ Q (.str (padS a i c)) H, fun j => ?_, fun ω ss σ H x xs d ds z Q rs bx bs hf q => ?_⟩
  · intro pins s σ H x xs v us Q I rx rs h
    obtain ⟨a, i, c, rfl, rfl, hc, h⟩ := h
    obtain ⟨t, rfl⟩ := rx
    obtain ⟨u1, u2, rfl, ⟨t1, rfl⟩, ⟨t2, rfl⟩⟩ := vals2 rs
    exact call_gives F.slot_str_ljust (typeIs_str _ _ _) F.entry_str_ljust (F.args_str_ljust_3 _ _ _) (gives_pad a i c t t1 t2 (PadOk.parts hc).1 (PadOk.parts hc).2) (post_val_or_made (fits_padR c (PadOk.parts hc).2) fun t' k => ⟨.str (padS a i c), H, I.tok _, ⟨t', rfl⟩, h⟩)
  · have bxr := bx.rp
    unfold fLjust at hf
    split at hf
    · rename_i e0
      cases e0
      split at hf
      · rename_i hc
        cases hf
        cases bxr
        obtain ⟨y, y2, rfl, b1, b2⟩ := bor2 bs
        have b1 := b1.rp
        have b2 := b2.rp
        cases b1
        cases b2
        exact ⟨_, _, _, rfl, rfl, hc, q H _ (Same.refl _) (.str _)⟩
      · cases hf
    · cases hf
end
end VL

namespace VL
open PySem PySem.Spec L2
open PyProof.Rows hiding St
variable [WW]

theorem adj_rev (n : Nat) : Builtin.Slice.sliceAdjust none none (-1) (n : Int) = ((n : Int) - 1, -1) := by
  unfold Builtin.Slice.sliceAdjust
  simp
theorem plc_rev (n : Nat) : Builtin.Slice.slicePlaces ((n : Int) - 1) (-1) (-1) = n := by
  unfold Builtin.Slice.slicePlaces
  have h1 : ¬ ((-1 : Int) > 0) := by decide
  rw [if_neg h1]
  by_cases h : (n : Int) - 1 > -1
  · rw [if_pos h]
    simp only [Int.neg_neg, Int.ediv_one]
    omega
  · rw [if_neg h]
    omega
theorem fm_congr {α β : Type} {f g : α → Option β} : ∀ {l : List α}, (∀ x ∈ l, f x = g x) → l.filterMap f = l.filterMap g
  | [], _ => rfl
  | x :: l, h => by
    rw [List.filterMap_cons, List.filterMap_cons, h x (by simp), fm_congr fun y hy => h y (by simp [hy])]
theorem pick_rev (xs : Array Value) : ((List.range xs.size).filterMap fun (m : Nat) => xs[((xs.size : Int) - 1 + (m : Int) * (-1)).toNat]?) = xs.toList.reverse := by
  have e : ∀ m ∈ List.range xs.size, xs[((xs.size : Int) - 1 + (m : Int) * (-1)).toNat]? = xs[xs.size - 1 - m]? := fun m hm => by
    have := List.mem_range.mp hm
    congr 1
    omega
  have e2 : ∀ n (f g : Nat → Option Value), (∀ m, m < n → f m = g m) → (List.range n).filterMap f = (List.range n).filterMap g := fun n f g h => by
    exact fm_congr fun m hm => h m (List.mem_range.mp hm)
  rw [e2 _ _ (fun m => xs[xs.size - 1 - m]?) fun m hm => e m (List.mem_range.mpr hm)]
  obtain ⟨l⟩ := xs
  show ((List.range l.length).filterMap fun m => l.toArray[l.length - 1 - m]?) = l.reverse
  have : ∀ k ≤ l.length, ((List.range k).filterMap fun m => l.toArray[l.length - 1 - m]?) = l.reverse.take k := by
    intro k
    induction k with
    | zero => intro _; simp
    | succ k ih =>
      intro hk
      rw [List.range_succ, List.filterMap_append, ih (by omega)]
      have e1 : l.toArray[l.length - 1 - k]? = l.reverse[k]? := by
        rw [List.getElem?_reverse (by omega)]
        simp
      have hlt : k < l.reverse.length := by rw [List.length_reverse]; omega
      rw [List.take_succ]
      congr 1
      simp only [List.filterMap_cons, List.filterMap_nil, e1, List.getElem?_eq_getElem hlt]
      rfl
  rw [this l.length (Nat.le_refl _)]
  rw [List.take_of_length_le (by simp)]
section
variable {prog : Program} {w : World} {A : Around} {E : Value → Shared → Prop} {s : Shared}
theorem applied_rev {sl : Addr} {k : Tok} {n : Nat} {Q : Int × Int × Nat → Shared → Prop} (hs : s.heap.IsSliceOf sl .none .none (.int (-1) k)) (h : Q ((n : Int) - 1, -1, n) s) : wpAny (model prog w) A (Builtin.Slice.sliceApplied (.ref sl) (pure (n : Int))) Q E s := by
  obtain ⟨o, e1, e2, e3⟩ := id hs
  unfold Builtin.Slice.sliceApplied Builtin.Slice.sliceFields
  refine wpAny_bind (wpAny_bind (wpAny_field e1 e3 (x := .none) rfl (wpAny_bind (wpAny_field e1 e3 (x := .none) rfl (wpAny_bind (wpAny_field e1 e3 (x := .int (-1) k) rfl (wpAny_pure ?_)))))))
  refine wpAny_bind (HT.slicePart_ (.int (-1) k) ?_)
  show wpAny _ _ (if ((-1 : Int) == 0) = true then _ else _) _ _ s
  rw [if_neg (by decide)]
  refine wpAny_bind (HT.slicePart_ .none (wpAny_bind (HT.slicePart_ .none (wpAny_bind (wpAny_pure ?_)))))
  show wpAny _ _ (match Builtin.Slice.sliceAdjust none none (-1) (n : Int) with | (lo, hi) => pure (lo, (-1 : Int), Builtin.Slice.slicePlaces lo hi (-1))) _ _ s
  rw [adj_rev]
  show wpAny _ _ (pure ((n : Int) - 1, (-1 : Int), Builtin.Slice.slicePlaces ((n : Int) - 1) (-1) (-1))) _ _ s
  rw [plc_rev]
  exact wpAny_pure h
theorem item_rev {t sl : Addr} {items : Array Value} {k : Tok} {Q : Value → Shared → Prop} (ht : IsTup s.heap t items) (hs : s.heap.IsSliceOf sl .none .none (.int (-1) k)) (hz : items.size ≤ sizeLine)
    (h : Q (.ref s.heap.objs.size) { s with heap := s.heap.push { cls := .type "tuple", data := .seq items.toList.reverse.toArray } }) : wpAny (model prog w) A (getItem (.ref t) (.ref sl)) Q E s := by
  have hzz : sizeOk (.seq items.toList.reverse.toArray) := by
    show items.toList.reverse.toArray.size ≤ sizeLine
    simpa using hz
  obtain ⟨o, e1, e2, e3⟩ := id hs
  have hTs : s.TypeIs (.ref sl) "slice" := ⟨o, e1, e2⟩
  unfold getItem
  refine wpAny_holding ?_
  try refine wpAny_bind (wpAny_pure ?_)
  refine wpAny_bind (wpAny_sequenceKey ht.typeIs (by decide) (wpAny_bind (wpAny_callSpecial?_slot (name := Str.ofString "__getitem__") ht.typeIs PyProof.Rows.slot_tuple_getitem (wpAny_call_entry PyProof.Rows.slot_tuple_getitem ht.typeIs entry_tuple_getitem ?_ (args_tuple_getitem _ _)))))
  show wpAny _ _ (Builtin.Tuple.tupleItemsOf (.ref t) >>= _) _ _ s
  refine wpAny_bind (tupleItemsOf_ ht (wpAny_bind (wpAny_typeOf hTs ?_)))
  rw [if_pos (by decide)]
  refine wpAny_bind (applied_rev hs ?_)
  show wpAny _ _ (if (((items.size : Int) - 1 == 0) && ((-1 : Int) == 1) && (items.size == items.size)) = true then _ else _) _ _ s
  have hno : ¬ ((((items.size : Int) - 1 == 0) && ((-1 : Int) == 1) && (items.size == items.size)) = true) := by
    rw [show ((-1 : Int) == 1) = false from by decide, Bool.and_false, Bool.false_and]
    exact Bool.false_ne_true
  rw [if_neg hno, pick_rev]
  first
    | exact wpAny_bind (m := Builtin.Tuple.tupleExact _) (wpAny_newObj_type (wpAny_pure ⟨_, rfl, wpAny_pure h⟩) hzz)
    | exact wpAny_bind (m := Builtin.Tuple.tupleExact _) (wpAny_newObj_type (wpAny_bind (wpAny_pure (wpAny_pure ⟨_, rfl, wpAny_pure h⟩))) hzz)
end
/-- what z[::-1] is -/
def revS (z : Str) : Str := ⟨((Builtin.Str.strSliceIndices none none (-1) z.length).filterMap (z.cps[·]?)).toArray⟩
def tRevQ (K : PySem.W.Frag) (te : TE) : TE := fun σ H Q => te σ H fun x H1 => (∃ a xs, x = .ref a ∧ SqT K H1 a xs ∧ ∀ p, H1 p = none → Q (.ref p) (upd H1 p (.tup xs.reverse))) ∨ ∃ z, x = .str z ∧ (revS z).length ≤ sizeLine ∧ Q (.str (revS z)) H1
theorem pe_revQ {X : Cx} {e : Expr} {te : TE} {k : Nat} {p1 p2 p3 pos : Pos} (he : PE X e te) : PE X (.Subscript e (.Slice none none (some (.UnaryOp .USub (.Constant (.int 1) k p1) p2)) p3) pos) (tRevQ X.K te) := by
  refine ⟨fun pins s σ H Q I h => Subscript_ (thn (he.run pins s σ H _ I h) fun v s1 hv => ?_)⟩
  obtain ⟨x, H1, I1, r1, q1⟩ := hv
  have step : PO X (some (.UnaryOp .USub (.Constant (.int 1) k p1) p2)) (tPart (tUn (rU fun i => .int (-i)) (tC (.int 1)))) := po_some (pe_un un_neg pe_int)
  refine wpAny_Slice (thn (po_none.run pins s1 σ H1 (fun o G => o = none ∧ G = H1) I1 ⟨rfl, rfl⟩) fun vl s2 hl => ?_)
  obtain ⟨l, H2, I2, pl, rfl, rfl⟩ := hl
  refine thn (po_none.run pins s2 σ H2 (fun o G => o = none ∧ G = H2) I2 ⟨rfl, rfl⟩) fun vu s3 hu => ?_
  obtain ⟨u, H3, I3, pu, rfl, rfl⟩ := hu
  refine thn (step.run pins s3 σ H3 (fun o G => o = some (-1) ∧ G = H3) I3 ⟨1, rfl, -1, rfl, rfl, rfl⟩) fun vs s4 hs => ?_
  obtain ⟨o, H4, I4, ps, rfl, rfl⟩ := hs
  cases pl
  cases pu
  cases ps with
  | int _ t4 =>
    have I5 : Inv X pins σ H4 { s4 with heap := s4.heap.push { cls := .type "slice", data := .fields #[.none, .none, .int (-1) t4] } } := I4.kept (t' := s4.toks) fun b ob z => Heap.get?_push_of_some _ z
    show wpAny (model X.prog X.w) X.A (subscriptTail e (.Slice none none (some (.UnaryOp .USub (.Constant (.int 1) k p1) p2)) p3) v (.ref s4.heap.objs.size)) (EP X pins σ Q) X.xe { s4 with heap := s4.heap.push { cls := .type "slice", data := .fields #[.none, .none, .int (-1) t4] } }
    rcases q1 with ⟨a, xs, rfl, hx, q⟩ | ⟨z, rfl, hz, q⟩
    · cases r1
      obtain ⟨its, r, ht, hz⟩ := I5.tuple hx
      have hlen := r.length
      refine tail_any (ops := [.ref a, .ref s4.heap.objs.size]) ht.typeIs (PyProof.Rows.slot_tuple_getitem.lookup) ?_ (by with_unfolding_all rfl)
      refine item_rev ht (Heap.IsSliceOf.new _ .none .none (.int (-1) t4)) (by rw [List.size_toArray]; omega) ?_
      refine ⟨.ref _, _, I5.laid (t' := s4.toks) (o := .tup xs.reverse) (fun b ob w => Heap.get?_push_of_some _ w) (Nat.le_refl _) ?_, rfl, q _ (I5.hok.fresh (Nat.le_refl _))⟩
      exact ⟨by rw [List.length_reverse]; exact hz, _, r.reverse, IsTup.new _ _⟩
    · obtain ⟨t, rfl⟩ := r1
      refine tail_any (ops := [.str z t, .ref s4.heap.objs.size]) (typeIs_str _ _ _) (F.slot_str_getitem.lookup) ?_ (by with_unfolding_all rfl)
      refine wpAny_getItem_str_slice (l := none) (u := none) (st := some (-1, t4)) ⟨_, Heap.get?_push_size _ rfl, rfl, rfl⟩ rfl ?_
      exact ⟨hz, .str (revS z), H4, I5.tok _, ⟨_, rfl⟩, q⟩
section
variable {ι : Type} {X : ι → Cx} {k : Nat} {P : Program} {w : World} {K : PySem.W.Frag} {mg : Str → Option Value} {base : Heap} {W : WX} {a b e : Expr} {pos : Pos}
def fRev : Dt → Option Dt
  | .tuple ds => some (.tuple ds.reverse)
  | .str z => if (revS z).length ≤ sizeLine then some (.str (revS z)) else none
  | _ => none
def mRev (m : SS → EO Opd) : SS → EO Dt := fun ss => (m ss).bind fun o ss => .lift ((o.get ss).bind fRev) ss
theorem v_rev (C : VC X k P w K mg base W) {j : Nat} {p1 p2 p3 : Pos} {m : SS → EO Opd} (hm : VB X K mg W a m) : VE X K mg W (.Subscript a (.Slice none none (some (.UnaryOp .USub (.Constant (.int 1) j p1) p2)) p3) pos) (mRev m) := by
  obtain ⟨t, a1, a2⟩ := hm.ex
  refine ⟨tRevQ K t, fun i => by rw [← C.eK i]; exact pe_revQ (a1 i), fun ω ss σ H Q rs q => a2 ω ss σ H _ rs ?_⟩
  refine seqE q fun o ss1 ω1 H1 x _ rs1 fr1 rp1 q1 => ?_
  obtain ⟨z, hz, q1⟩ := lift_get q1
  obtain ⟨d, e1, e2⟩ := Option.bind_eq_some_iff.mp hz
  have bx := Opd.bor rs1 rp1 e1
  unfold fRev at e2
  split at e2
  · cases e2
    obtain ⟨p, xs, rfl, w1, w2⟩ := bor_tup bx
    refine .inl ⟨p, xs, rfl, sqT_mono hid_le w1, fun r hr => ?_⟩
    obtain ⟨n1, n2⟩ := new_tup rs1 hr w2.rev
    exact q1 ω1 _ _ (rs1.grow n1) (.grow n1 rs1.own) n2
  · split at e2
    · rename_i hl
      cases e2
      have bx := bx.rp
      cases bx
      exact .inr ⟨_, rfl, hl, q1 ω1 H1 _ rs1 (.refl _ _) (.str _)⟩
    · cases e2
  · cases e2
theorem rpa_rep {H : Hp} {ds : List Dt} {xs : List V} (h : RpA K H xs ds) : ∀ n : Nat, RpA K H (List.replicate n xs).flatten (List.replicate n ds).flatten
  | 0 => .nil
  | n + 1 => by
    rw [List.replicate_succ, List.replicate_succ, List.flatten_cons, List.flatten_cons]
    exact h.app (rpa_rep h n)
def gRepL : Dt → Dt → Option Dt := fun d e => match d, e with
  | .list ds, .int k => if -(2 ^ 63) ≤ k ∧ k < 2 ^ 63 ∧ ds.length * k.toNat ≤ sizeLine then some (.list (List.replicate k.toNat ds).flatten) else none
  | _, _ => none
theorem s_repL : BinS X K .Mult gRepL := by
  refine ⟨_, fun _ => op_rep, fun ω ss σ H x y d e z Q rs bx by' hf q => ?_⟩
  unfold gRepL at hf
  split at hf
  · split at hf
    · rename_i hc
      cases hf
      obtain ⟨a, xs, rfl, h1, h2⟩ := bor_lst bx
      have by' := by'.rp
      cases by'
      refine ⟨a, _, xs, rfl, rfl, h1, hc.1, hc.2.1, by rw [h2.length]; exact hc.2.2, fun p hp => ?_⟩
      obtain ⟨n1, n2⟩ := new_lst rs hp (rpa_rep h2 _)
      exact q _ _ n1 n2
    · cases hf
  · cases hf
def gRepT : Dt → Dt → Option Dt := fun d e => match d, e with
  | .tuple ds, .int k => if ds ≠ [] ∧ 2 ≤ k ∧ k ≤ 1000 ∧ ds.length ≤ 1000 then some (.tuple (List.replicate k.toNat ds).flatten) else none
  | _, _ => none
theorem s_repT (C : VC X k P w K mg base W) : BinS X K .Mult gRepT := by
  refine ⟨rRepT K, fun i => by rw [← C.eK i]; exact op_repT, fun ω ss σ H x y d e z Q rs bx by' hf q => ?_⟩
  unfold gRepT at hf
  split at hf
  · split at hf
    · rename_i hc
      cases hf
      obtain ⟨a, xs, rfl, h1, h2⟩ := bor_tup bx
      have by' := by'.rp
      cases by'
      refine ⟨a, _, xs, rfl, rfl, sqT_mono hid_le h1, fun e0 => ?_, hc.2.1, hc.2.2.1, by rw [h2.length]; exact hc.2.2.2, fun p hp => ?_⟩
      · subst e0
        cases h2
        exact hc.1 rfl
      · obtain ⟨n1, n2⟩ := new_tup rs hp (rpa_rep h2 _)
        exact q _ _ n1 n2
    · cases hf
  · cases hf
def gMulA : Dt → Dt → Option Dt := alt gMul (alt gRepL gRepT)
theorem s_mulA (C : VC X k P w K mg base W) : BinS X K .Mult gMulA := s_mul.or (s_repL.or (s_repT C))
end
end VL

namespace VL
open PySem PySem.Spec L2
open PyProof.Rows hiding St
variable [WW]

def dkOf (ss : SS) (i : Nat) : Option (Addr × Dk) := match ss[i]? with
  | some (some (.dk a q b c)) => some (a, q, b, c)
  | _ => none
theorem dkOf_at {ss : SS} {i : Nat} {a : Addr} {q : List Int} {b c : Int} (h : dkOf ss i = some (a, q, b, c)) : ss[i]? = some (some (.dk a q b c)) := by
  unfold dkOf at h
  split at h
  · cases h; assumption
  · cases h
section
variable {ι : Type} {X : ι → Cx} {k : Nat} {P : Program} {w : World} {K : PySem.W.Frag} {mg : Str → Option Value} {base : Heap} {W : WX} {a b e : Expr} {pos : Pos}
theorem RS.deck {ω : Om} {ss : SS} {σ : St} {H : Hp} {i : Nat} {a : Addr} {q : List Int} {b c : Int} (rs : RS K ω ss σ H) (h : dkOf ss i = some (a, q, b, c)) : σ[i]? = some (some (.ref a)) ∧ ω a = some i ∧ ∃ a2, ω a2 = some i ∧ a2 ≠ a ∧ H a = some (WW.dk a2 b c) ∧ H a2 = some (.lst (q.map V.int)) := by
  obtain ⟨x, q1, rfl, e1, a2, e2, e3, e4⟩ := rs.sl i _ (dkOf_at h)
  refine ⟨q1, e1, a2, e2, fun z => ?_, e3, e4⟩
  subst z
  rw [e3] at e4
  exact WW.dkn _ _ _ _ (Option.some.inj e4)
/-- a deck that is a list -/
def dkL (a : Addr) (b c : Int) : HO := .lst [.ref a, .int b, .int c]
omit [WW] in
theorem dkL_n (a : Addr) (b c : Int) (q : List Int) : dkL a b c ≠ .lst (q.map V.int) := by
  intro h
  unfold dkL at h
  cases q <;> cases h
/-- deck[1], deck[2] -/
def mDkI (i : Nat) (j : Int) : SS → EO Dt := fun ss => match dkOf ss i with
  | some (_, _, b, c) => if j = 1 then .ok (.int b) ss else if j = 2 then .ok (.int c) ss else .no
  | none => .no
theorem v_dkI (C : VC X k P w K mg base W) (hdk : WW.dk = dkL) (i : Nat) {y : Str} {j : Int} {z : Nat} {p1 p2 : Pos} (hN : ∀ l, (X l).N[i]? = some y) (hv : ∀ l, Vis (X l).env.scope y) (hd : (y == ("__debug__" : Str)) = false := by decide) (hcd : (y == ("__classdict__" : Str)) = false := by decide) :
    VE X K mg W (.Subscript (.Name y p1) (.Constant (.int j) z p2) pos) (mDkI i j) := by
  refine ⟨tOp (rIx K) (tVar i) (tC (.int j)), fun l => by rw [← C.eK l]; exact pe_ix ix_seq (pe_var (hN l) (hv l) hd hcd) pe_int (fun _ _ => rfl), fun ω ss σ H Q rs q => ?_⟩
  unfold mDkI at q
  split at q
  · rename_i a qq b c hk
    obtain ⟨w1, w2, a2, w3, w4, w5, w6⟩ := rs.deck hk
    rw [hdk] at w5
    unfold dkL at w5
    split at q
    · rename_i hj
      subst hj
      exact ⟨_, w1, .inl ⟨a, _, 1, .int b, rfl, rfl, .of w5, rfl, q ω H _ rs (.refl _ _) (.int _)⟩⟩
    · split at q
      · rename_i hj
        subst hj
        exact ⟨_, w1, .inl ⟨a, _, 2, .int c, rfl, rfl, .of w5, rfl, q ω H _ rs (.refl _ _) (.int _)⟩⟩
      · exact q.elim
  · exact q.elim
/-- deck[2] = e -/
def mDkSet (i : Nat) (m : SS → EO Dt) : SS → SO := fun ss => (m ss).st fun d ss => match d, dkOf ss i with
  | .int n, some (a, q, b, _) => .nx (ss.set i (some (.dk a q b n)))
  | _, _ => .no
theorem s_dkSet (C : VC X k P w K mg base W) (hdk : WW.dk = dkL) (i : Nat) {y : Str} {z : Nat} {p1 p2 p3 : Pos} {m : SS → EO Dt} (h : VE X K mg W e m) (hN : ∀ l, (X l).N[i]? = some y) (hv : ∀ l, Vis (X l).env.scope y) (hd : (y == ("__debug__" : Str)) = false := by decide) (hcd : (y == ("__classdict__" : Str)) = false := by decide)
    (hs : ∀ l, swapsWithSole [.Subscript (.Name y p1) (.Constant (.int 2) z p2) p3] e pos.line (X l).env = pure false := by intro _; rfl) (hw : ∀ l, swappedStores [.Subscript (.Name y p1) (.Constant (.int 2) z p2) p3] e (X l).env = pure none := by intro _; rfl)
    (h1 : ∀ l, (assignEach [.Subscript (.Name y p1) (.Constant (.int 2) z p2) p3] (X l).env).map (·.2) = [assign (.Subscript (.Name y p1) (.Constant (.int 2) z p2) p3) (X l).env] := by intro _; rfl) :
    VS X K mg W (.Assign [.Subscript (.Name y p1) (.Constant (.int 2) z p2) p3] e pos) (mDkSet i m) := by
  obtain ⟨t, a1, a2⟩ := h.ex
  refine ⟨_, fun l => ps_asg (a1 l) (pg_sub (pe_var (hN l) (hv l) hd hcd) pe_int set_list) (hs l) (hw l) (h1 l), fun ω ss σ H D rs q => a2 ω ss σ H _ rs ?_⟩
  refine seqS q fun d ss1 ω1 H1 x _ rs1 fr1 rp1 q1 => ?_
  split at q1
  · rename_i n a qq b c hk _
    cases rp1
    obtain ⟨w1, w2, a3, w3, w4, w5, w6⟩ := rs1.deck hk
    rw [hdk] at w5
    unfold dkL at w5
    refine ⟨.ref a, w1, a, _, 2, 2, rfl, rfl, w5, rfl, ?_⟩
    obtain ⟨m1, m2, m3⟩ := rs1.mut (o := .lst [.ref a3, .int b, .int n]) (s := .dk a qq b n) w2 w1 ⟨rfl, w2, a3, w3, by rw [hdk]; exact upd_same, by rw [upd_ne w4]; exact w6⟩
    exact q1 ω1 σ _ m1 m2
  · exact q1.elim
/-- deck[0] != [] -/
def mDkNe (i : Nat) : SS → EO Bool := fun ss => match dkOf ss i with
  | some (_, q, _, _) => .ok (!q.isEmpty) ss
  | none => .no
theorem dp_ints {H : Hp} : ∀ q : List Int, DpAll K H (q.map V.int) (q.map PyData.int)
  | [] => .nil
  | z :: q => .cons (.int z) (dp_ints q)
theorem lay_ints : ∀ q : List Int, PyData.canLayAll0 (q.map PyData.int) = true
  | [] => rfl
  | z :: q => by
    show (PyData.canLay0 (.int z) && PyData.canLayAll0 (q.map PyData.int)) = true
    rw [lay_ints q]
    rfl
theorem dep_ints : ∀ q : List Int, PyData.depthAll (q.map PyData.int) ≤ 1
  | [] => by simp [PyData.depthAll]
  | z :: q => by
    have := dep_ints q
    simp only [List.map_cons, PyData.depthAll, PyData.depth]
    omega
theorem shaped_ints (q : List Int) : SeqAt.shaped (.list (q.map PyData.int)) = true := by
  unfold SeqAt.shaped
  have h1 := dep_ints q
  rw [show PyData.canLay0 (.list (q.map PyData.int)) = true from by simpa [PyData.canLay0] using lay_ints q, Bool.true_and, decide_eq_true_eq]
  simp only [PyData.depth]
  omega
theorem t_dkNe (C : VC X k P w K mg base W) (hdk : WW.dk = dkL) (i : Nat) {y : Str} {z : Nat} {p1 p2 p3 p4 : Pos} (hN : ∀ l, (X l).N[i]? = some y) (hv : ∀ l, Vis (X l).env.scope y) (hd : (y == ("__debug__" : Str)) = false := by decide) (hcd : (y == ("__classdict__" : Str)) = false := by decide) (hk : behindInMarks .NotEq (.List [] p4) = false := by rfl) :
    VT X K mg W (.Compare (.Subscript (.Name y p1) (.Constant (.int 0) z p2) p3) [.NotEq] [.List [] p4] pos) (mDkNe i) := by
  refine ⟨tTest (tOp (rNeD K) (tOp (rIx K) (tVar i) (tC (.int 0))) (tLst tNil)), fun l => by rw [← C.eK l]; exact pt_cmpR (op_neD (C.rm l).units) (pe_ix ix_seq (pe_var (hN l) (hv l) hd hcd) pe_int (fun _ _ => rfl)) (pe_lst pa_nil) hk, fun ω ss σ H Q rs q => ?_⟩
  unfold mDkNe at q
  split at q
  · rename_i a qq b c hk
    obtain ⟨w1, w2, a2, w3, w4, w5, w6⟩ := rs.deck hk
    rw [hdk] at w5
    unfold dkL at w5
    refine ⟨_, w1, .inl ⟨a, _, 0, .ref a2, rfl, rfl, .of w5, rfl, by decide, fun p hp => ?_⟩⟩
    have hs : Same H (upd H p (.lst [])) := same_upd hp
    have sh : SeqAt.shaped (.list []) = true := shaped_ints []
    refine ⟨.list (qq.map PyData.int), .list [], .lst (.of (hs _ _ w6)) (dp_ints qq), .lst (.of upd_same) .nil, shaped_ints qq, sh, ?_⟩
    have e : (!PyData.eqv (.list (qq.map PyData.int)) (.list [])) = !qq.isEmpty := by
      cases qq <;> simp [PyData.eqv, PyData.eqvAll]
    exact ⟨_, congrArg V.bl e, q ω _ _ (rs.grow hs) (.grow hs rs.own) rfl⟩
  · exact q.elim
/-- deck[0].pop() -/
def mDkPop (i : Nat) : SS → EO Dt := fun ss => match dkOf ss i with
  | some (a, q, b, c) => match q.getLast? with
    | some z => .ok (.int z) (ss.set i (some (.dk a q.dropLast b c)))
    | none => .no
  | none => .no
theorem v_dkPop (C : VC X k P w K mg base W) (hdk : WW.dk = dkL) (i : Nat) {y : Str} {z : Nat} {p1 p2 p3 ap : Pos} (hN : ∀ l, (X l).N[i]? = some y) (hv : ∀ l, Vis (X l).env.scope y) (hd : (y == ("__debug__" : Str)) = false := by decide) (hcd : (y == ("__classdict__" : Str)) = false := by decide)
    (hb : ∀ l, attributeBase (.Subscript (.Name y p1) (.Constant (.int 0) z p2) p3) "pop" (X l).env (eval (.Subscript (.Name y p1) (.Constant (.int 0) z p2) p3) (X l).env) = eval (.Subscript (.Name y p1) (.Constant (.int 0) z p2) p3) (X l).env := by intro _; rfl) (hl : (ap.endLine == pos.line) = true := by rfl) :
    VE X K mg W (.Call (.Attribute (.Subscript (.Name y p1) (.Constant (.int 0) z p2) p3) "pop" ap) [] [] pos) (mDkPop i) := by
  refine ⟨tBM0 K "list" rPop (tOp (rIx K) (tVar i) (tC (.int 0))), fun l => by rw [← C.eK l]; exact pe_bm0 PySem.F.plainAttrs_list PySem.F.slot_list_pop PySem.F.type_list_pop (show MtR (X l) "list.pop" rPop from mt_pop) (pe_ix ix_seq (pe_var (hN l) (hv l) hd hcd) pe_int (fun _ _ => rfl)) (hb l) hl, fun ω ss σ H Q rs q => ?_⟩
  unfold mDkPop at q
  split at q
  · rename_i a qq b c hk
    obtain ⟨w1, w2, a2, w3, w4, w5, w6⟩ := rs.deck hk
    rw [hdk] at w5
    unfold dkL at w5
    split at q
    · rename_i v hv2
      refine ⟨_, w1, .inl ⟨a, _, 0, .ref a2, rfl, rfl, .of w5, rfl, .inl ⟨rfl, _, .of w6⟩, a2, qq.map V.int, .int v, rfl, rfl, w6, ?_, ?_⟩⟩
      · rw [List.length_map, List.getElem?_map]
        rw [List.getLast?_eq_getElem?] at hv2
        rw [hv2]
        rfl
      · have e2 : (qq.map V.int).dropLast = qq.dropLast.map V.int := by rw [List.map_dropLast]
        rw [e2]
        obtain ⟨m1, m2, m3⟩ := rs.mut (o := .lst (qq.dropLast.map V.int)) (s := .dk a qq.dropLast b c) w3 w1 ⟨rfl, w2, a2, w3, by rw [hdk, upd_ne w4.symm]; exact w5, upd_same⟩
        exact q ω _ _ m1 m2 (.int _)
    · exact q.elim
  · exact q.elim
/-- deck[0].append(u // v), names -/
def mDkApp (i ju jv : Nat) : SS → SO := fun ss => match dkOf ss i, ss[ju]?, ss[jv]? with
  | some (a, q, b, c), some (some (.v (.int n))), some (some (.v (.int m))) => if 0 < m ∧ m < 1073741824 ∧ q.length < sizeLine then .nx (ss.set i (some (.dk a (q ++ [n / m]) b c))) else .no
  | _, _, _ => .no
theorem s_dkApp (C : VC X k P w K mg base W) (hdk : WW.dk = dkL) (i ju jv : Nat) {y u v : Str} {z : Nat} {p1 p2 p3 ap p4 pu pv po : Pos} (hN : ∀ l, (X l).N[i]? = some y) (hv : ∀ l, Vis (X l).env.scope y) (hNu : ∀ l, (X l).N[ju]? = some u) (hvu : ∀ l, Vis (X l).env.scope u) (hNv : ∀ l, (X l).N[jv]? = some v) (hvv : ∀ l, Vis (X l).env.scope v)
    (hd : (y == ("__debug__" : Str)) = false := by decide) (hcd : (y == ("__classdict__" : Str)) = false := by decide) (hdu : (u == ("__debug__" : Str)) = false := by decide) (hcu : (u == ("__classdict__" : Str)) = false := by decide) (hdv : (v == ("__debug__" : Str)) = false := by decide) (hcv : (v == ("__classdict__" : Str)) = false := by decide)
    (hb : ∀ l, attributeBase (.Subscript (.Name y p1) (.Constant (.int 0) z p2) p3) "append" (X l).env (eval (.Subscript (.Name y p1) (.Constant (.int 0) z p2) p3) (X l).env) = eval (.Subscript (.Name y p1) (.Constant (.int 0) z p2) p3) (X l).env := by intro _; rfl)
    (hf : ∀ l, ((backTo p4 (starEach ((.BinOp (.Name u pu) .FloorDiv (.Name v pv) po) :: []) (X l).env)).all (fun x => !x.1) && (backToKw p4 (keywordEach [] (X l).env)).all (fun x => x.1.isSome) && decide (((.BinOp (.Name u pu) .FloorDiv (.Name v pv) po : Expr) :: []).length + ([] : List Keyword).length + (if ([] : List Keyword).isEmpty then 0 else 1) < 30)) = true := by intro _; rfl)
    (hl : (ap.endLine == p4.line) = true := by rfl) (hst : ∀ l, starEach ((.BinOp (.Name u pu) .FloorDiv (.Name v pv) po) :: []) (X l).env = (false, eval (.BinOp (.Name u pu) .FloorDiv (.Name v pv) po) (X l).env) :: starEach [] (X l).env := by intro _; rfl) (hpl : ∀ l, (backTo p4 (starEach [] (X l).env)).any (·.1) = false := by intro _; rfl)
    (hsw : ∀ l, swapsWith (.Call (.Attribute (.Subscript (.Name y p1) (.Constant (.int 0) z p2) p3) "append" ap) [.BinOp (.Name u pu) .FloorDiv (.Name v pv) po] [] p4) none pos.line (X l).env = pure false := by intro _; rfl) :
    VS X K mg W (.Expr (.Call (.Attribute (.Subscript (.Name y p1) (.Constant (.int 0) z p2) p3) "append" ap) [.BinOp (.Name u pu) .FloorDiv (.Name v pv) po] [] p4) pos) (mDkApp i ju jv) := by
  refine ⟨tDrop (tBM K "list" rAppend (tOp (rIx K) (tVar i) (tC (.int 0))) (tCons (tOp (rI (fun _ j => 0 < j ∧ j < 1073741824) fun i j => .int (i / j)) (tVar ju) (tVar jv)) tNil)), fun l => ps_expr (by
    rw [← C.eK l]
    exact pe_bm PySem.F.plainAttrs_list PySem.F.slot_list_append PySem.F.type_list_append (show MtR (X l) "list.append" rAppend from mt_append) (pe_ix ix_seq (pe_var (hN l) (hv l) hd hcd) pe_int (fun _ _ => rfl)) (pa_cons (pe_op op_fdiv (pe_var (hNu l) (hvu l) hdu hcu) (pe_var (hNv l) (hvv l) hdv hcv)) pa_nil (hst l)) (hb l) (hf l) hl (hst l) (hpl l)) (hsw l), fun ω ss σ H D rs q => ?_⟩
  unfold mDkApp at q
  split at q
  · rename_i a qq b c n m hk hu hv2
    split at q
    · rename_i hc
      obtain ⟨w1, w2, a2, w3, w4, w5, w6⟩ := rs.deck hk
      rw [hdk] at w5
      unfold dkL at w5
      obtain ⟨x1, g1, g2⟩ := rs.sl ju _ hu
      obtain ⟨x2, g3, g4⟩ := rs.sl jv _ hv2
      cases (show Rp K (hid ω H) x1 (.int n) from g2)
      cases (show Rp K (hid ω H) x2 (.int m) from g4)
      refine ⟨_, w1, .inl ⟨a, _, 0, .ref a2, rfl, rfl, .of w5, rfl, .inl ⟨rfl, _, .of w6⟩, _, g1, _, g3, n, m, rfl, rfl, ⟨hc.1, hc.2.1⟩, a2, qq.map V.int, _, rfl, rfl, w6, by rw [List.length_map]; exact hc.2.2, ?_⟩⟩
      have e2 : qq.map V.int ++ [V.int (n / m)] = (qq ++ [n / m]).map V.int := by simp
      rw [e2]
      obtain ⟨m1, m2, m3⟩ := rs.mut (o := .lst ((qq ++ [n / m]).map V.int)) (s := .dk a (qq ++ [n / m]) b c) w3 w1 ⟨rfl, w2, a2, w3, by rw [hdk, upd_ne w4.symm]; exact w5, upd_same⟩
      exact q ω σ _ m1 m2
    · exact q.elim
  · exact q.elim
end
end VL

namespace VL
open PySem PySem.Spec L2
open PyProof.Rows hiding St
variable [WW]

/-- a def that makes a deck of the script -/
def spM (K : PySem.W.Frag) (B : List Int → Int) : Sp := fun vs H Q _ => ∃ (a : Addr) (ns : List Int), vs = [.ref a] ∧ SqL K H a (ns.map V.int) ∧ ns.length ≤ 63 ∧
  ∀ (H' : Hp) (d d2 : Addr), Same H H' → H d = none → H d2 = none → d ≠ d2 → H' d = some (WW.dk d2 (B ns.reverse) 0) → H' d2 = some (.lst (ns.reverse.map V.int)) → Q (.ref d) H'
def spL (K : PySem.W.Frag) : Sp := fun vs H Q _ => ∃ (a : Addr) (ns : List Int), vs = [.ref a] ∧ SqL K H a (ns.map V.int) ∧ ns.length ≤ 63 ∧ ∀ H', Q (.bl true) H'
/-- the slots behind the first statement of a law -/
def startW (a : Addr) (N : List Str) (q : List Int) (b : Int) : SS := none :: some (.dk a q b 0) :: List.replicate (N.length - 2) none
section
variable {P : Program} {w : World} {K : PySem.W.Frag} {mg : Str → Option Value} {base : Heap} {k j : Nat} {f fm : Addr} {fd fdm : FuncData} {N psm : List Str} {x qual dn mk : Str} {st : Stmt} {p1 p2 p3 p4 p5 : Pos}
/-- THE RULE for a law -/
theorem fn_law {rest : List Stmt} {m : SS → SO} {B : List Int → Int} (hw : w = WW.w) (F : Fun K x qual st f fd) {sx : Str} (S : FnScope N [sx] (defScope st)) (hN : N.length ≤ 1000) (hN2 : 2 ≤ N.length)
    (hb : defBody st = .Assign [.Name dn p1] (.Call (.Name mk p2) [.Name sx p3] [] p4) p5 :: rest) (M : FnG P w K mg base j fm fdm psm (spM K B)) (hj : j ≤ k) (mm : mg mk = some (.ref fm)) (hk : PySem.W.keepIn K (.ref fm) = true) (bm : Binds K fdm psm [])
    (h0 : N[0]? = some sx) (h1 : N[1]? = some dn) (v0 : ∀ (cdv : Value) (A : Around) (outer : List Env) (s : Shared) (H : Hp) (E : XK), Vis (fX P w K mg base N qual (defScope st) f cdv A outer s H E ()).env.scope sx) (l1 : ∀ (cdv : Value) (A : Around) (outer : List Env) (s : Shared) (H : Hp) (E : XK), Loc (fX P w K mg base N qual (defScope st) f cdv A outer s H E ()).env.scope dn)
    (gm : ∀ (cdv : Value) (A : Around) (outer : List Env) (s : Shared) (H : Hp) (E : XK), Gl (fX P w K mg base N qual (defScope st) f cdv A outer s H E ()) mk)
    (body : ∀ (cdv : Value) (A : Around) (outer : List Env) (s : Shared) (H : Hp) (E : XK), VC (fX P w K mg base N qual (defScope st) f cdv A outer s H E) k P w K mg base (WX0 E) → VSs (fX P w K mg base N qual (defScope st) f cdv A outer s H E) K mg (WX0 E) rest m)
    (good : ∀ (a : Addr) (ns : List Int), ns.length ≤ 63 → ∃ ss, m (startW a N ns.reverse (B ns.reverse)) = .rt (.bool true) ss)
    (d0 : (sx == ("__debug__" : Str)) = false := by decide) (c0 : (sx == ("__classdict__" : Str)) = false := by decide) (dm : (mk == ("__debug__" : Str)) = false := by decide) :
    FnG P w K mg base (k + 1) f fd [sx] (spL K) := by
  refine FnG.of F S (fun vs H Q E z => ?_) fun cdv A outer s H vs Q E hr hgd hsp => ?_
  · obtain ⟨a, ns, rfl, _⟩ := z
    rfl
  · obtain ⟨a, ns, rfl, hS, hl, hq⟩ := hsp
    have C := VC.fn (P := P) (w := w) (K := K) (mg := mg) (base := base) (outer := outer) (s := s) (H := H) (E := E) hw S.nd hr hgd
    obtain ⟨t, t1, t2⟩ := (body cdv A outer s H E C).ex
    have first := ps_set (pos := p5) (pos' := p1) (C.nd ()) h1 (l1 cdv A outer s H E) (pe_g (p := p2) (pos := p4) (E := WE (WX0 E)) (k := j) (fd := fdm) (ps := psm) (f := fm) (Y := fX P w K mg base N qual (defScope st) f cdv A outer s H E ()) (sp := spM K B) M ((C.rm ()).mono hj) hgd (gm cdv A outer s H E) mm hk bm (fun σ => passAt (C.tk ()) σ) (pa_cons (pe_var (pos := p3) h0 (v0 cdv A outer s H E) d0 c0) pa_nil) dm rfl rfl) rfl (.inl rfl)
    refine ⟨_, by rw [hb]; exact pss_cons first (t1 ()), ?_⟩
    have s0 : (L2.start N [V.ref a])[0]? = some (some (.ref a)) := start_get (i := 0) rfl
    refine ⟨.ref a, s0, a, ns, rfl, hS, hl, fun H' d d2 hs n1 n2 n3 e1 e2 => ?_⟩
    obtain ⟨ω, ew⟩ : ∃ ω : Om, ω = fun y => if y = d ∨ y = d2 then some 1 else none := ⟨_, rfl⟩
    have o1 : ω d = some 1 := by rw [ew]; exact if_pos (.inl rfl)
    have o2 : ω d2 = some 1 := by rw [ew]; exact if_pos (.inr rfl)
    obtain ⟨ss', em⟩ := good d ns hl
    have lenN : (L2.start N [V.ref a]).length = N.length := by
      unfold L2.start
      simp only [List.length_append, List.length_map, List.length_replicate, List.length_cons, List.length_nil]
      omega
    refine t2 ω (startW d N ns.reverse (B ns.reverse)) _ H' _ ⟨?_, ?_, fun y i hy => ?_, fun i sv hi => ?_⟩ ?_
    · rw [List.length_set, lenN]
      unfold startW
      simp only [List.length_cons, List.length_replicate]
      omega
    · rw [List.length_set, lenN]
      exact hN
    · rw [ew] at hy
      have hy : (if y = d ∨ y = d2 then some 1 else none) = some i := hy
      split at hy
      · rename_i hc
        rcases hc with rfl | rfl
        · rw [e1]; rfl
        · rw [e2]; rfl
      · cases hy
    · match i, hi with
      | 0, hi => cases hi
      | 1, hi =>
        have hi : some (some (SV.dk d ns.reverse (B ns.reverse) 0)) = some (some sv) := hi
        cases hi
        exact ⟨.ref d, by rw [List.getElem?_set_self (by rw [lenN]; omega)], rfl, o1, d2, o2, e1, e2⟩
      | i + 2, hi =>
        have hi : (List.replicate (N.length - 2) (none : Option SV))[i]? = some (some sv) := hi
        rw [List.getElem?_replicate] at hi
        split at hi <;> cases hi
    · rw [em]
      intro ω' σ' H2 v rs fr rv
      cases rv
      exact hq H2
end

omit [WW] in
theorem call_g {P : Program} {w : World} {K : PySem.W.Frag} {mg mb : Str → Option Value} {k : Nat} {fa a : Addr} {fd : FuncData} {x : Str} {s1 : Shared} {vs : List Value} {ns : List Int} (KX : K.In s1.heap) (hns : s1.heap.Ns mainGlobals mg) (hb : s1.heap.Ns builtinsNs mb)
    (hbb : ∀ x : Str, x ≠ "__name__" → mb x = bootBuiltins x) (hlim : s1.heap.NoLimit) (hg : s1.gens = #[]) (ha : s1.heap.get? a = some { cls := .type "list", data := .seq vs.toArray }) (hi : IntsAre vs ns) (hl : ns.length ≤ 63) (hr : Room k callerA) (hgd : callerA.guards = some [])
    (F : ∀ base : Heap, K.In base → base.Ns mainGlobals mg → FnG P w K mg base k fa fd [x] (spL K)) (hbind : ∀ (s : Shared) (u : Value), BindsTo s fd ⟨[u], []⟩ [(x, u)]) :
    codeAny (model P w) callerA (.call (.ref fa) ⟨[.ref a], []⟩) (fun r s' => r = .ok (.ret (.bool true)) ∧ OldK s1.heap s'.heap ∧ s'.os = s1.os ∧ AllBare s'.gens) s1 := by
  have lv := hi.length
  have hl2 : ns.length ≤ sizeLine := Nat.le_trans hl (by decide)
  have main : ∀ H : Hp, (∀ b, H b = none ∨ ∃ o xs, H b = some (.frz o (.lst xs))) → SqL K H a (ns.map V.int) → HOk P w H s1.heap → (∀ b, H b ≠ none → b = a) → (H a ≠ none → K.lookup a = none) →
      codeAny (model P w) callerA (.call (.ref fa) ⟨[.ref a], []⟩) (fun r s' => r = .ok (.ret (.bool true)) ∧ OldK s1.heap s'.heap ∧ s'.os = s1.os ∧ AllBare s'.gens) s1 := by
    intro H hO hS ok only offK
    have free : ∀ {b : Addr}, b ≠ a → H b = none := fun {b} hne => by
      cases q : H b with
      | none => rfl
      | some u => exact absurd (only b (by rw [q]; exact fun z => nomatch z)) hne
    have dictNe : ∀ {b : Addr} {o : Obj} {es : Array DictEntry} {ep : Nat}, s1.heap.get? b = some o → o.data = .dict es ep → b ≠ a := fun {b o es ep} e d z => by
      subst z
      rw [ha] at e
      cases e
      exact nomatch d
    have ns' : ∀ {b : Addr} {m : Str → Option Value}, s1.heap.Ns b m → (hidT s1.heap H).Ns b m := fun {b m} h => let ⟨o, es, ep, e, d, r⟩ := h; ⟨o, es, ep, hidT_get e (free (dictNe e d)), d, r⟩
    have kin : K.In (hidT s1.heap H) := fun b o e => by
      refine hidT_get (KX b o e) ?_
      by_cases hne : b = a
      · cases q : H b with
        | none => rfl
        | some u =>
          rw [hne] at q e
          rw [offK (by rw [q]; exact fun z => nomatch z)] at e
          cases e
      · exact free hne
    have e0 : Env0 P w K mg (hidT s1.heap H) callerA [] s1 H := ⟨rfl, ⟨kin, ns' hns, ⟨mb, ns' hb, hbb⟩, let ⟨mc, m1, m2⟩ := hlim; ⟨mc, ns' m1, m2⟩⟩, fun b o e => of_hidT e, Nat.le_of_eq (hidT_size _ _), trivial, fun b z => (nomatch z), ok, .of_eq hg⟩
    refine codeAny_mono ((F _ kin (ns' hns)).go callerA [] s1 H ⟨[.ref a], []⟩ [.ref a] [.ref a] (fun v _ => v = .bl true) (fun _ _ _ => False) hr hgd e0 (hbind s1 (.ref a)) (.cons rfl .nil) ⟨a, ns, rfl, hS, hl, fun _ => rfl⟩) fun r s' h => ?_
    cases r with
    | error e =>
      obtain ⟨_, _, _, _, _, _, _, _, _, _, _, _, _, _, _, _, h⟩ := h
    | ok fl =>
      cases fl with
      | ret u =>
        obtain ⟨v, H', os, bare, un, ok', rv, rfl⟩ := h
        cases rv
        refine ⟨rfl, OldK.of_keep fun b o e => ?_, os, bare⟩
        rcases hO b with q | ⟨ob, xs, q⟩
        · exact un.keep b o e q (fun z => nomatch z) (fun z => nomatch z)
        · have e1 := (ok b _ q).1
          have e2 := (ok' b _ (un.frzs b ob _ q)).1
          rw [e] at e1
          cases e1
          exact e2
      | next => exact h.elim
      | brk => exact h.elim
      | cont => exact h.elim
  have rv : Vals (ns.map V.int) vs := vals_ints hi
  cases hk : K.lookup a with
  | some o =>
    have e := KX a o hk
    rw [ha] at e
    cases e
    exact main (fun _ => none) (fun _ => .inl rfl) (.inr ⟨_, vs.toArray, _, hk, rfl, rfl, rfl, by rw [List.size_toArray, lv]; exact hl2, by simpa using rv⟩) (fun b u z => nomatch z) (fun b z => absurd rfl z) fun z => absurd rfl z
  | none =>
    obtain ⟨H, eH⟩ : ∃ H : Hp, H = fun b => if b = a then some (.frz { cls := .type "list", data := .seq vs.toArray } (.lst (ns.map V.int))) else none := ⟨_, rfl⟩
    have at_a : H a = some (.frz { cls := .type "list", data := .seq vs.toArray } (.lst (ns.map V.int))) := by rw [eH]; exact if_pos rfl
    have off : ∀ b, b ≠ a → H b = none := fun b hb => by rw [eH]; exact if_neg hb
    refine main H (fun b => ?_) (.inl (.inr ⟨_, at_a⟩)) (fun b u z => ?_) (fun b z => ?_) fun _ => hk
    · by_cases hb : b = a
      · exact .inr ⟨_, _, by rw [hb]; exact at_a⟩
      · exact .inl (off b hb)
    · by_cases hb : b = a
      · subst hb
        rw [at_a] at z
        cases z
        exact ⟨ha, by rw [List.length_map]; exact hl2, vs, _, rv, ha⟩
      · rw [off b hb] at z
        cases z
    · by_cases hb : b = a
      · exact hb
      · exact absurd (off b hb) z
omit [WW] in
theorem walk_g {l : PySem.W.OpenLaw} {k : Nat} {q : Program} {loose : List Str} {XP : (Str → Option Value) → Heap → Prop} {YP : World → Heap → Prop} {d : DefRec} {K : Params → PySem.W.Frag} {x : Str} (hn : l.most = some 63) (hdf : d.params.defaults = []) (hr : Room k callerA) (hgd : callerA.guards = some [])
    (hY : ∀ (w : World) (h : Heap), YP w h → (K w.params).In h)
    (F : ∀ (w : World) (mg : Str → Option Value) (fa : Addr) (h : Heap), (K w.params).In h → h.Ns mainGlobals mg → mg d.name = some (.ref fa) → ∃ fd : FuncData, (∀ (s : Shared) (u : Value), BindsTo s fd ⟨[u], []⟩ [(x, u)]) ∧ ∀ base : Heap, (K w.params).In base → base.Ns mainGlobals mg → FnG l.prog w (K w.params) mg base k fa fd [x] (spL (K w.params))) :
    PySem.W.WalkO q loose XP YP l.row.toRowW d [] (fun f vs => PySem.call f vs) := by
  refine Att.attach_call hn hdf fun w s0 s1 mg mb fa o pm cd doc a vs ns G Y _ _ _ hmg hobj hints hlen hg => ?_
  obtain ⟨fd, hb, hF⟩ := F w mg fa _ (hY w _ Y) G.T.g hmg
  exact call_g (hY w _ Y) G.T.g G.T.b G.T.builtins G.T.nolimit hg hobj hints hlen hr hgd hF hb
end VL

namespace VL
open PySem PySem.Spec L2
open PyProof.Rows hiding St
variable [WW]

/-- a def of the module -/
structure Df (K : PySem.W.Frag) (mg : Str → Option Value) (x : Str) (st : Stmt) (ps : List Str) : Prop where
  ex : ∃ f fd, Fun K x x st f fd ∧ mg x = some (.ref f) ∧ Binds K fd ps []
/-- .. with its promise -/
structure Go (P : Program) (w : World) (K : PySem.W.Frag) (mg : Str → Option Value) (base : Heap) (k : Nat) (x : Str) (st : Stmt) (ps : List Str) (sp : Sp) : Prop where
  ex : ∃ f fd, Fun K x x st f fd ∧ mg x = some (.ref f) ∧ Binds K fd ps [] ∧ FnG P w K mg base k f fd ps sp
section
variable {P : Program} {w : World} {K : PySem.W.Frag} {mg : Str → Option Value} {base : Heap} {k : Nat} {x : Str} {st : Stmt} {ps N : List Str} {sp sp' : Sp}
theorem Df.go (D : Df K mg x st ps) (h : ∀ f fd, Fun K x x st f fd → FnG P w K mg base k f fd ps sp) : Go P w K mg base k x st ps sp :=
  let ⟨f, fd, F, hm, hb⟩ := D.ex
  ⟨f, fd, F, hm, hb, h f fd F⟩
theorem Go.mono {j : Nat} (G : Go P w K mg base j x st ps sp) (h : j ≤ k) : Go P w K mg base k x st ps sp :=
  let ⟨f, fd, F, hm, hb, g⟩ := G.ex
  ⟨f, fd, F, hm, hb, g.mono h⟩
theorem Go.imp (G : Go P w K mg base k x st ps sp) (h : ∀ vs H Q E, sp' vs H Q E → sp vs H Q E) : Go P w K mg base k x st ps sp' :=
  let ⟨f, fd, F, hm, hb, g⟩ := G.ex
  ⟨f, fd, F, hm, hb, g.imp h⟩
/-- a def upon data, in better words -/
theorem go_pure {m : SS → SO} {n : Nat} {h : List Dt → Res Dt} (hw : w = WW.w) (D : Df K mg x st ps) (S : FnScope N ps (defScope st)) (hN : N.length ≤ 1000) (en : ps.length = n) (e : ∀ ds, ds.length = n → outF (m (startS N ds)) = h ds ∨ h ds = .no)
    (body : ∀ (f : Addr) (cdv : Value) (A : Around) (outer : List Env) (s : Shared) (H : Hp) (E : XK), VC (fX P w K mg base N x (defScope st) f cdv A outer s H E) k P w K mg base (WX0 E) → VSs (fX P w K mg base N x (defScope st) f cdv A outer s H E) K mg (WX0 E) (defBody st) m) :
    Go P w K mg base (k + 1) x st ps (spF K mg n h) :=
  D.go fun f fd F => (fn_pure hw F S hN (body f)).imp (by rw [en]; exact spF_imp e)
theorem go_no {n : Nat} (D : Df K mg x st ps) (en : ps.length = n) : Go P w K mg base k x st ps (spD K n fun _ _ => .no) :=
  D.go fun f fd F => ⟨fun vs H Q E z => by
    obtain ⟨_, _, _, _, _, _, _, _, _, _, _, _, _, _, _, _, z⟩ := z
    exact z.elim, fun A outer s H args us vs Q E _ _ _ _ _ z => by
    obtain ⟨_, _, _, _, _, _, _, _, _, _, _, _, _, _, _, _, z⟩ := z
    exact z.elim⟩
/-- a def that draws -/
theorem go_deck {m : SS → SO} {n : Nat} {g : Dk → List Dt → Res (Dt × Dk)} (hw : w = WW.w) (D : Df K mg x st ps) (S : FnScope N ps (defScope st)) (hN : N.length ≤ 1000) (en : ps.length = n) (e : ∀ a dk ds, ds.length + 1 = n → outD a (m (startD a N dk ds)) = g dk ds ∨ g dk ds = .no)
    (body : ∀ (f : Addr) (cdv : Value) (A : Around) (outer : List Env) (s : Shared) (H : Hp) (E : XK), VC (fX P w K mg base N x (defScope st) f cdv A outer s H E) k P w K mg base (WX0 E) → VSs (fX P w K mg base N x (defScope st) f cdv A outer s H E) K mg (WX0 E) (defBody st) m) :
    Go P w K mg base (k + 1) x st ps (spD K n g) :=
  D.go fun f fd F => by
    subst en
    exact fn_deck hw F S hN (body f) e
end
section
variable {ι : Type} {X : ι → Cx} {k : Nat} {P : Program} {w : World} {K : PySem.W.Frag} {mg : Str → Option Value} {base : Heap} {W : WX} {e a b c : Expr} {es : List Expr} {pos p : Pos} {j n : Nat} {ps : List Str} {x : Str} {st : Stmt}
theorem nm (i : Nat) {x : Str} (hN : ∀ j, (X j).N[i]? = some x := by intro _; rfl) (hv : ∀ j, Vis (X j).env.scope x := by intro _; first | exact .inl rfl | exact .inr (.inl rfl) | exact .inr (.inr rfl)) (hd : (x == ("__debug__" : Str)) = false := by decide) (hcd : (x == ("__classdict__" : Str)) = false := by decide) : VE X K mg W (.Name x pos) (mVar i) := v_var i hN hv hd hcd
theorem bn (i : Nat) {x : Str} (hN : ∀ j, (X j).N[i]? = some x := by intro _; rfl) (hv : ∀ j, Vis (X j).env.scope x := by intro _; first | exact .inl rfl | exact .inr (.inl rfl) | exact .inr (.inr rfl)) (hd : (x == ("__debug__" : Str)) = false := by decide) (hcd : (x == ("__classdict__" : Str)) = false := by decide) : VB X K mg W (.Name x pos) (mBor i) := b_var i hN hv hd hcd
theorem gn (C : VC X k P w K mg base W) (i : Nat) {x : Str} (hi : ∀ j, (X j).N[i]? = some x := by intro _; rfl) (hx : ∀ j, Loc (X j).env.scope x := by intro _; first | exact .inl rfl | exact .inr rfl) (hf : ∀ j, (X j).fn x = true ∨ (X j).env.scope.names.lookup x = some .local := by intro _; first | exact .inl rfl | exact .inr rfl) : VG X K (.Name x p) [i] (gNm i) := g_nm i C.nd hi hx hf
theorem gstr (C : VC X k P w K mg base W) {x z : Str} (hm : ∃ t, mg x = some (.str z t)) (hg : ∀ i, Gl (X i) x := by intro _; rfl) (hd : (x == ("__debug__" : Str)) = false := by decide) : VE X K mg W (.Name x pos) (mC (.str z)) :=
  let ⟨t, h⟩ := hm
  v_glob (v := .str z) C hg h ⟨t, rfl⟩ (fun _ => .str z) hd
theorem gint (C : VC X k P w K mg base W) {x : Str} {z : Int} (hm : ∃ t, mg x = some (.int z t)) (hg : ∀ i, Gl (X i) x := by intro _; rfl) (hd : (x == ("__debug__" : Str)) = false := by decide) : VE X K mg W (.Name x pos) (mC (.int z)) :=
  let ⟨t, h⟩ := hm
  v_glob (v := .int z) C hg h ⟨t, rfl⟩ (fun _ => .int z) hd
/-- f(e, ..) -/
theorem call (C : VC X k P w K mg base W) {g : List Dt → Res Dt} {m : SS → EO (List Dt)} (G : Go P w K mg base j x st ps (spF K mg n g)) (hj : j ≤ k) (hn : (e :: es).length = n) (ha : VA X K mg W (e :: es) m) (hlen : ∀ ss ds ss', m ss = .ok ds ss' → ds.length = n) (hg : ∀ i, Gl (X i) x := by intro _; rfl)
    (hdb : (x == ("__debug__" : Str)) = false := by decide) (he : ∀ i, starEach (e :: es) (X i).env = (false, eval e (X i).env) :: starEach es (X i).env := by intro _; rfl) (hpl : ∀ i, (backTo pos (starEach es (X i).env)).any (·.1) = false := by intro _; rfl) : VE X K mg W (.Call (.Name x p) (e :: es) [] pos) (mRes g m) :=
  let ⟨_, _, F, hm, hb, f⟩ := G.ex
  v_call C f hj hn hg hm F.kp hb ha hdb he hpl hlen
/-- f(deck, ..) -/
theorem draw (C : VC X k P w K mg base W) (i : Nat) {y : Str} {py : Pos} {g : Dk → List Dt → Res (Dt × Dk)} {m : SS → EO (List Dt)} (G : Go P w K mg base j x st ps (spD K n g)) (hj : j ≤ k) (ha : VA X K mg W es m) (hlen : ∀ ss ds ss', m ss = .ok ds ss' → ds.length + 1 = n)
    (hN : ∀ l, (X l).N[i]? = some y := by intro _; rfl) (hv : ∀ l, Vis (X l).env.scope y := by intro _; first | exact .inl rfl | exact .inr (.inl rfl) | exact .inr (.inr rfl)) (hg : ∀ i, Gl (X i) x := by intro _; rfl) (hd : (y == ("__debug__" : Str)) = false := by decide) (hcd : (y == ("__classdict__" : Str)) = false := by decide) (hdb : (x == ("__debug__" : Str)) = false := by decide)
    (he : ∀ l, starEach (.Name y py :: es) (X l).env = (false, eval (.Name y py) (X l).env) :: starEach es (X l).env := by intro _; rfl) (hpl : ∀ l, (backTo pos (starEach es (X l).env)).any (·.1) = false := by intro _; rfl) : VE X K mg W (.Call (.Name x p) (.Name y py :: es) [] pos) (mDraw i g m) :=
  let ⟨_, _, F, hm, hb, f⟩ := G.ex
  v_draw i C f hj hg hm F.kp hb hN hv ha hlen hd hcd hdb he hpl
def one1 {α : Type} (us ws : List α) : List α := match us, ws with
  | [], [u] => [u]
  | _, _ => []
def two12 {α : Type} (us ws : List α) : List α := match us, ws with
  | [], [u, v] => [u, v]
  | _, _ => []
def two21 {α : Type} (us ws : List α) : List α := match us, ws with
  | [], [u, v] => [v, u]
  | _, _ => []
theorem kb1 {f : Addr} {fd : FuncData} {q : Str} (F : Fun K x x st f fd) (h : ∀ (kV doc pm : Value) (an : Option Addr) (cdv ct u : Value), bindArgs (PySem.W.fnOf x x (defArgs st) (defBody st) (defScope st) .none kV doc pm an cdv ct) ⟨[], [(q, u)]⟩ = pure [(q, u)]) : KBinds K fd [q] [q] one1 one1 := by
  obtain ⟨oc, od, kV, doc, pm, an, cdv, ct, osl, rfl, lk, hcd⟩ := F.ex
  refine ⟨fun s us ws _ hl => ?_, fun r1 r2 => ?_⟩
  · match us, ws, hl with
    | [], [u], _ => exact .of_eq (h kV doc pm an cdv ct u)
  · cases r1 with
    | nil =>
      cases r2 with
      | nil => exact .nil
      | cons a r2 =>
        cases r2 with
        | nil => exact .cons a .nil
        | cons b r2 => exact .nil
    | cons a r1 => exact .nil
theorem kb2 {f : Addr} {fd : FuncData} {q r : Str} (F : Fun K x x st f fd) (h : ∀ (kV doc pm : Value) (an : Option Addr) (cdv ct u v : Value), bindArgs (PySem.W.fnOf x x (defArgs st) (defBody st) (defScope st) .none kV doc pm an cdv ct) ⟨[], [(q, u), (r, v)]⟩ = pure [(q, u), (r, v)]) : KBinds K fd [q, r] [q, r] two12 two12 := by
  obtain ⟨oc, od, kV, doc, pm, an, cdv, ct, osl, rfl, lk, hcd⟩ := F.ex
  refine ⟨fun s us ws _ hl => ?_, fun r1 r2 => ?_⟩
  · match us, ws, hl with
    | [], [u, v], _ => exact .of_eq (h kV doc pm an cdv ct u v)
  · cases r1 with
    | nil =>
      cases r2 with
      | nil => exact .nil
      | cons a r2 =>
        cases r2 with
        | nil => exact .nil
        | cons b r2 =>
          cases r2 with
          | nil => exact .cons a (.cons b .nil)
          | cons c r2 => exact .nil
    | cons a r1 => exact .nil
theorem kb2r {f : Addr} {fd : FuncData} {q r : Str} (F : Fun K x x st f fd) (h : ∀ (kV doc pm : Value) (an : Option Addr) (cdv ct u v : Value), bindArgs (PySem.W.fnOf x x (defArgs st) (defBody st) (defScope st) .none kV doc pm an cdv ct) ⟨[], [(r, u), (q, v)]⟩ = pure [(q, v), (r, u)]) : KBinds K fd [q, r] [r, q] two21 two21 := by
  obtain ⟨oc, od, kV, doc, pm, an, cdv, ct, osl, rfl, lk, hcd⟩ := F.ex
  refine ⟨fun s us ws _ hl => ?_, fun r1 r2 => ?_⟩
  · match us, ws, hl with
    | [], [u, v], _ => exact .of_eq (h kV doc pm an cdv ct u v)
  · cases r1 with
    | nil =>
      cases r2 with
      | nil => exact .nil
      | cons a r2 =>
        cases r2 with
        | nil => exact .nil
        | cons b r2 =>
          cases r2 with
          | nil => exact .cons b (.cons a .nil)
          | cons c r2 => exact .nil
    | cons a r1 => exact .nil
theorem pm1 : ∀ (F : Hp) (vs : List V) (ds : List Dt), RpA K F vs ds → ds.length = 1 → (one1 [] vs).length = 1 ∧ RpA K F (one1 [] vs) (one1 [] ds) := fun F vs ds h l => by
  cases h with
  | nil => cases l
  | cons h1 h2 =>
    cases h2 with
    | nil => exact ⟨rfl, .one h1⟩
    | cons h2 h3 => simp at l
theorem pm12 : ∀ (F : Hp) (vs : List V) (ds : List Dt), RpA K F vs ds → ds.length = 2 → (two12 [] vs).length = 2 ∧ RpA K F (two12 [] vs) (two12 [] ds) := fun F vs ds h l => by
  cases h with
  | nil => cases l
  | cons h1 h2 =>
    cases h2 with
    | nil => simp at l
    | cons h2 h3 =>
      cases h3 with
      | nil => exact ⟨rfl, .cons h1 (.one h2)⟩
      | cons h3 h4 => simp at l
theorem pm21 : ∀ (F : Hp) (vs : List V) (ds : List Dt), RpA K F vs ds → ds.length = 2 → (two21 [] vs).length = 2 ∧ RpA K F (two21 [] vs) (two21 [] ds) := fun F vs ds h l => by
  cases h with
  | nil => cases l
  | cons h1 h2 =>
    cases h2 with
    | nil => simp at l
    | cons h2 h3 =>
      cases h3 with
      | nil => exact ⟨rfl, .cons h2 (.one h1)⟩
      | cons h3 h4 => simp at l
theorem callK {kws : List Keyword} {ks : List Str} {gg : List Value → List Value → List Value} {gV : List V → List V → List V} {pm : List Dt → List Dt} (C : VC X k P w K mg base W) {g : List Dt → Res Dt} {m : SS → EO (List Dt)} (G : Go P w K mg base j x st ps (spF K mg n g)) (hj : j ≤ k)
    (hb : ∀ f fd, Fun K x x st f fd → KBinds K fd ps ks gg gV) (hpm : ∀ F vs ds, RpA K F vs ds → ds.length = ks.length → (gV [] vs).length = n ∧ RpA K F (gV [] vs) (pm ds)) (ha : VK' X K mg W kws m) (hlen : ∀ ss ds ss', m ss = .ok ds ss' → ds.length = ks.length) (hg : ∀ i, Gl (X i) x := by intro _; rfl)
    (hall : ∀ i, (backToKw pos (keywordEach kws (X i).env)).all (·.1.isSome) = true := by intro _; rfl) (hks : ∀ i, (backToKw pos (keywordEach kws (X i).env)).filterMap (·.1) = ks := by intro _; rfl) (hdb : (x == ("__debug__" : Str)) = false := by decide)
    (hpl : ∀ i, ((backTo pos (starEach [] (X i).env)).any (·.1) || (backToKw pos (keywordEach kws (X i).env)).any (·.1.isNone)) = false := by intro _; rfl) : VE X K mg W (.Call (.Name x p) [] kws pos) (mResK pm g m) :=
  let ⟨f, fd, F, hm, _, fn⟩ := G.ex
  v_callK C fn hj hg hm F.kp (hb f fd F) ha hall hks hpm hlen hdb hpl
theorem set1 (C : VC X k P w K mg base W) (i : Nat) {y : Str} {p' : Pos} {m : SS → EO NV} (h : VN X K mg W e m) (hi : ∀ j, (X j).N[i]? = some y := by intro _; rfl) (hx : ∀ j, Loc (X j).env.scope y := by intro _; first | exact .inl rfl | exact .inr rfl) (hs : ∀ j, swapsWith e (some (.Name y p')) pos.line (X j).env = pure false := by intro _; rfl)
    (hf : ∀ j, (X j).fn y = true ∨ (X j).env.scope.names.lookup y = some .local := by intro _; first | exact .inl rfl | exact .inr rfl) : VS X K mg W (.Assign [.Name y p'] e pos) (mSet i m) := s_set C i h hi hx hs hf
theorem par2 (C : VC X k P w K mg base W) (i j : Nat) {y z : Str} {px py pt : Pos} {kt k2 : Nat} {pt2 : Pos} {m n : SS → EO NV} (h : VN X K mg W a m) (g : VN X K mg W b n) (hij : i ≠ j := by decide) (hi : ∀ l, (X l).N[i]? = some y := by intro _; rfl) (hj : ∀ l, (X l).N[j]? = some z := by intro _; rfl)
    (hx : ∀ l, (X l).env.scope.names.lookup y = some .local := by intro _; rfl) (hy : ∀ l, (X l).env.scope.names.lookup z = some .local := by intro _; rfl) (hw : ∀ l, swappedStores [.Tuple [.Name y px, .Name z py] kt pt] (.Tuple [a, b] k2 pt2) (X l).env = pure (some [y, z]) := by intro _; rfl)
    (hs : ∀ l, swapsWithSole [.Tuple [.Name y px, .Name z py] kt pt] (.Tuple [a, b] k2 pt2) pos.line (X l).env = pure false := by intro _; rfl) (st1 : ∀ l, starEach [a, b] (X l).env = (false, eval a (X l).env) :: starEach [b] (X l).env := by intro _; rfl) (st2 : ∀ l, starEach [b] (X l).env = (false, eval b (X l).env) :: starEach [] (X l).env := by intro _; rfl) :
    VS X K mg W (.Assign [.Tuple [.Name y px, .Name z py] kt pt] (.Tuple [a, b] k2 pt2) pos) (mPar i j m n) := s_par C i j h g hi hj hij hx hy hw hs st1 st2
theorem app1 (C : VC X k P w K mg base W) (i : Nat) {y : Str} {p1 p2 p3 : Pos} {m : SS → EO Dt} (h : VE X K mg W e m) (hN : ∀ j, (X j).N[i]? = some y := by intro _; rfl) (hv : ∀ j, Vis (X j).env.scope y := by intro _; first | exact .inl rfl | exact .inr (.inl rfl) | exact .inr (.inr rfl)) (hd : (y == ("__debug__" : Str)) = false := by decide) (hcd : (y == ("__classdict__" : Str)) = false := by decide)
    (hb : ∀ j, attributeBase (.Name y p1) "append" (X j).env (eval (.Name y p1) (X j).env) = eval (.Name y p1) (X j).env := by intro _; rfl)
    (hf : ∀ j, ((backTo p3 (starEach (e :: []) (X j).env)).all (fun x => !x.1) && (backToKw p3 (keywordEach [] (X j).env)).all (fun x => x.1.isSome) && decide ((e :: []).length + ([] : List Keyword).length + (if ([] : List Keyword).isEmpty then 0 else 1) < 30)) = true := by intro _; rfl)
    (hl : (p2.endLine == p3.line) = true := by rfl) (hst : ∀ j, starEach (e :: []) (X j).env = (false, eval e (X j).env) :: starEach [] (X j).env := by intro _; rfl) (hpl : ∀ j, (backTo p3 (starEach [] (X j).env)).any (·.1) = false := by intro _; rfl)
    (hsw : ∀ j, swapsWith (.Call (.Attribute (.Name y p1) "append" p2) [e] [] p3) none pos.line (X j).env = pure false := by intro _; rfl) :
    VS X K mg W (.Expr (.Call (.Attribute (.Name y p1) "append" p2) [e] [] p3) pos) (mAppend i m) := s_append i h C.eK hN hv hd hcd hb hf hl hst hpl hsw
end
end VL

namespace VL
open PySem PySem.Spec L2
open PyProof.Rows hiding St
variable [WW]
/-- a comprehension that only reads -/
theorem lcGo_pure {vs : List Nat} {g : Dt → SS → Option SS} {mt : SS → EO Bool} {me : SS → EO Dt} {s0 : SS} (s1 : Dt → SS) (p : Dt → Bool) (f : Dt → Dt) : ∀ (items : List Dt) (acc : List Dt), (∀ d ∈ items, g d s0 = some (s1 d)) → (∀ d ∈ items, mt (s1 d) = .ok (p d) (s1 d)) → (∀ d ∈ items, p d = true → me (s1 d) = .ok (f d) (s1 d)) →
    (∀ d ∈ items, wipeS (s1 d) vs = s0) → acc.length + items.length ≤ sizeLine → lcGo vs g mt me items s0 acc = .ok (acc ++ (items.filter p).map f) s0
  | [], acc, _, _, _, _, _ => by simp [lcGo]
  | d :: items, acc, hg, ht, he, hw, hl => by
    have m := List.mem_cons_self (a := d) (l := items)
    have r : ∀ e ∈ items, e ∈ d :: items := fun e h => List.mem_cons_of_mem _ h
    rw [List.length_cons] at hl
    rw [lcGo, hg d m]
    simp only [ht d m, EO.calm, EO.bind]
    cases hp : p d with
    | true =>
      rw [if_pos rfl]
      have hlt : acc.length < sizeLine := by omega
      simp only [he d m hp, EO.calm, EO.bind, if_pos hlt, hw d m]
      rw [lcGo_pure s1 p f items (acc ++ [f d]) (fun e h => hg e (r e h)) (fun e h => ht e (r e h)) (fun e h => he e (r e h)) (fun e h => hw e (r e h)) (by rw [List.length_append, List.length_singleton]; omega), List.filter_cons, hp]
      simp
    | false =>
      rw [if_neg Bool.false_ne_true, hw d m, lcGo_pure s1 p f items acc (fun e h => hg e (r e h)) (fun e h => ht e (r e h)) (fun e h => he e (r e h)) (fun e h => hw e (r e h)) (by omega), List.filter_cons, hp]
      simp
theorem boolsD_map {α : Type} (f : α → Bool) : ∀ l : List α, boolsD (l.map fun x => .bool (f x)) = some (l.map f)
  | [] => rfl
  | x :: l => by
    show (boolsD (l.map fun x => .bool (f x))).map (f x :: ·) = _
    rw [boolsD_map f l]
    rfl
theorem textsD_map {α : Type} (f : α → Str) : ∀ l : List α, textsD (l.map fun x => .str (f x)) = some (l.map f)
  | [] => rfl
  | x :: l => by
    show (textsD (l.map fun x => .str (f x))).map (f x :: ·) = _
    rw [textsD_map f l]
    rfl
theorem isi_dct {T : String} {b : Bool} {ds : List (Dt × Dt)} (h : kitB "dict" T = some b) : fIsi T (.dict ds) = if plain1 (.dict ds) = true then some b else none := by
  unfold fIsi
  show (if _ then kitB "dict" T else none) = _
  rw [h]
theorem isi_of {T : String} {d : Dt} {b : Bool} (h : fIsi T d = some b) : fIsi T d = some b := h
def isTy (T : String) (d : Dt) : Bool := (fIsi T d).getD false
def is_str : Dt → Bool
  | .str _ => true
  | _ => false
theorem isi_str : ∀ d : Dt, fIsi "str" d = if plain1 d = true then some (is_str d) else none
  | .none => (by decide +kernel : kitB "NoneType" "str" = some false)
  | .bool _ => (by decide +kernel : kitB "bool" "str" = some false)
  | .int _ => (by decide +kernel : kitB "int" "str" = some false)
  | .str _ => (by decide +kernel : kitB "str" "str" = some true)
  | .list _ => (by decide +kernel : kitB "list" "str" = some false)
  | .tuple _ => (by decide +kernel : kitB "tuple" "str" = some false)
  | .dict ds => isi_dct (by decide +kernel : kitB "dict" "str" = some false)
def is_tuple : Dt → Bool
  | .tuple _ => true
  | _ => false
theorem isi_tuple : ∀ d : Dt, fIsi "tuple" d = if plain1 d = true then some (is_tuple d) else none
  | .none => (by decide +kernel : kitB "NoneType" "tuple" = some false)
  | .bool _ => (by decide +kernel : kitB "bool" "tuple" = some false)
  | .int _ => (by decide +kernel : kitB "int" "tuple" = some false)
  | .str _ => (by decide +kernel : kitB "str" "tuple" = some false)
  | .list _ => (by decide +kernel : kitB "list" "tuple" = some false)
  | .tuple _ => (by decide +kernel : kitB "tuple" "tuple" = some true)
  | .dict ds => isi_dct (by decide +kernel : kitB "dict" "tuple" = some false)
def is_int : Dt → Bool
  | .int _ => true
  | .bool _ => true
  | _ => false
theorem isi_int : ∀ d : Dt, fIsi "int" d = if plain1 d = true then some (is_int d) else none
  | .none => (by decide +kernel : kitB "NoneType" "int" = some false)
  | .bool _ => (by decide +kernel : kitB "bool" "int" = some true)
  | .int _ => (by decide +kernel : kitB "int" "int" = some true)
  | .str _ => (by decide +kernel : kitB "str" "int" = some false)
  | .list _ => (by decide +kernel : kitB "list" "int" = some false)
  | .tuple _ => (by decide +kernel : kitB "tuple" "int" = some false)
  | .dict ds => isi_dct (by decide +kernel : kitB "dict" "int" = some false)
def is_bool : Dt → Bool
  | .bool _ => true
  | _ => false
theorem isi_bool : ∀ d : Dt, fIsi "bool" d = if plain1 d = true then some (is_bool d) else none
  | .none => (by decide +kernel : kitB "NoneType" "bool" = some false)
  | .bool _ => (by decide +kernel : kitB "bool" "bool" = some true)
  | .int _ => (by decide +kernel : kitB "int" "bool" = some false)
  | .str _ => (by decide +kernel : kitB "str" "bool" = some false)
  | .list _ => (by decide +kernel : kitB "list" "bool" = some false)
  | .tuple _ => (by decide +kernel : kitB "tuple" "bool" = some false)
  | .dict ds => isi_dct (by decide +kernel : kitB "dict" "bool" = some false)
def is_list : Dt → Bool
  | .list _ => true
  | _ => false
theorem isi_list : ∀ d : Dt, fIsi "list" d = if plain1 d = true then some (is_list d) else none
  | .none => (by decide +kernel : kitB "NoneType" "list" = some false)
  | .bool _ => (by decide +kernel : kitB "bool" "list" = some false)
  | .int _ => (by decide +kernel : kitB "int" "list" = some false)
  | .str _ => (by decide +kernel : kitB "str" "list" = some false)
  | .list _ => (by decide +kernel : kitB "list" "list" = some true)
  | .tuple _ => (by decide +kernel : kitB "tuple" "list" = some false)
  | .dict ds => isi_dct (by decide +kernel : kitB "dict" "list" = some false)
def is_dict : Dt → Bool
  | .dict _ => true
  | _ => false
theorem isi_dict : ∀ d : Dt, fIsi "dict" d = if plain1 d = true then some (is_dict d) else none
  | .none => (by decide +kernel : kitB "NoneType" "dict" = some false)
  | .bool _ => (by decide +kernel : kitB "bool" "dict" = some false)
  | .int _ => (by decide +kernel : kitB "int" "dict" = some false)
  | .str _ => (by decide +kernel : kitB "str" "dict" = some false)
  | .list _ => (by decide +kernel : kitB "list" "dict" = some false)
  | .tuple _ => (by decide +kernel : kitB "tuple" "dict" = some false)
  | .dict ds => isi_dct (by decide +kernel : kitB "dict" "dict" = some true)
theorem strOk_sign {c : Nat} (h : c < 1114112) : PyData.strOk ⟨#[c]⟩ = true := by
  unfold PyData.strOk
  simp [h]
theorem shaped_str {z : Str} (h : PyData.strOk z = true) : SeqAt.shaped (.str z) = true := by
  unfold SeqAt.shaped
  simp [PyData.canLay0, PyData.depth, h]
theorem shaped_int (i : Int) : SeqAt.shaped (.int i) = true := by
  unfold SeqAt.shaped
  simp [PyData.canLay0, PyData.depth]

theorem beq_dec {α : Type} [DecidableEq α] [BEq α] [LawfulBEq α] (i j : α) : (i == j) = decide (i = j) := by
  rw [Bool.eq_iff_iff]
  simp
theorem fEq_int (i j : Int) : fEq (.int i) (.int j) = some (decide (i = j)) := by
  unfold fEq
  rw [if_pos ⟨shaped_int i, shaped_int j⟩]
  simp only [PyData.eqv, beq_dec]
theorem fNe_int (i j : Int) : fNe (.int i) (.int j) = some (!decide (i = j)) := by
  unfold fNe
  rw [if_pos ⟨shaped_int i, shaped_int j⟩]
  simp only [PyData.eqv, beq_dec]
theorem fEq_str {x y : Str} (hx : PyData.strOk x = true) (hy : PyData.strOk y = true) : fEq (.str x) (.str y) = some (decide (x = y)) := by
  unfold fEq
  rw [if_pos ⟨shaped_str hx, shaped_str hy⟩]
  simp only [PyData.eqv, beq_dec]
theorem fNe_str {x y : Str} (hx : PyData.strOk x = true) (hy : PyData.strOk y = true) : fNe (.str x) (.str y) = some (!decide (x = y)) := by
  unfold fNe
  rw [if_pos ⟨shaped_str hx, shaped_str hy⟩]
  simp only [PyData.eqv, beq_dec]
theorem fIn_sign (c : Nat) (z : Str) : fIn (.str ⟨#[c]⟩) (.str z) = some (decide (c ∈ z.cps.toList)) := rfl
theorem fNotIn_sign (c : Nat) (z : Str) : fNotIn (.str ⟨#[c]⟩) (.str z) = some (!decide (c ∈ z.cps.toList)) := rfl
end VL

namespace VL
open PySem PySem.Spec L2
open PyProof.Rows hiding St
variable [WW]
def rNil (K : PySem.W.Frag) (neg : Bool) : R2 := fun x y H Q => ∃ a b xs, x = .ref a ∧ y = .ref b ∧ ((SqL K H a xs ∧ SqL K H b []) ∨ (SqT K H a xs ∧ SqT K H b [])) ∧ Q (.bl (if neg then !xs.isEmpty else xs.isEmpty)) H
theorem vals_nil {us : List Value} (h : Vals [] us) : us = [] := by cases h; rfl
theorem op_eqNil {X : Cx} (hu : X.A.units < cLine) : OpR X (compareOp .Eq) (rNil X.K false) := by
  intro pins s σ H x y v u Q I rx ry h
  obtain ⟨a, b, xs, rfl, rfl, h, q⟩ := h
  cases rx
  cases ry
  rcases h with ⟨h1, h2⟩ | ⟨h1, h2⟩
  · obtain ⟨us, r1, p1, _⟩ := I.list h1
    obtain ⟨ws, r2, p2, _⟩ := I.list h2
    have e := vals_nil r2
    subst e
    cases r1 with
    | nil => exact SeqAt.eq_listAt (e := fun _ => true) p1.isList p2.isList rfl hu (fun j h1 _ => absurd h1 (Nat.not_lt_zero j)) ⟨.bl true, H, I, rfl, q⟩
    | cons r r1 => exact SeqAt.eq_list_lengthsAt p1.isList p2.isList (by simp) hu ⟨.bl false, H, I, rfl, q⟩
  · obtain ⟨us, r1, p1, _⟩ := I.tuple h1
    obtain ⟨ws, r2, p2, _⟩ := I.tuple h2
    have e := vals_nil r2
    subst e
    refine SeqAt.eq_tupleAt (e := fun _ => true) p1 p2 hu (fun j _ h2 => absurd h2 (Nat.not_lt_zero j)) ?_
    cases r1 with
    | nil => exact ⟨.bl true, H, I, rfl, q⟩
    | cons r r1 => exact ⟨.bl false, H, I, rfl, q⟩
theorem op_neNil {X : Cx} (hu : X.A.units < cLine) : OpR X (compareOp .NotEq) (rNil X.K true) := by
  intro pins s σ H x y v u Q I rx ry h
  obtain ⟨a, b, xs, rfl, rfl, h, q⟩ := h
  cases rx
  cases ry
  rcases h with ⟨h1, h2⟩ | ⟨h1, h2⟩
  · obtain ⟨us, r1, p1, _⟩ := I.list h1
    obtain ⟨ws, r2, p2, _⟩ := I.list h2
    have e := vals_nil r2
    subst e
    cases r1 with
    | nil => exact SeqAt.RcNeAt.lists (e := fun _ => true) p1.isList p2.isList rfl hu (fun j h1 _ => absurd h1 (Nat.not_lt_zero j)) _ _ _ _ ⟨.bl false, H, I, rfl, q⟩
    | cons r r1 => exact SeqAt.RcNeAt.lists_lengths p1.isList p2.isList (by simp) hu _ _ _ _ ⟨.bl true, H, I, rfl, q⟩
  · obtain ⟨us, r1, p1, _⟩ := I.tuple h1
    obtain ⟨ws, r2, p2, _⟩ := I.tuple h2
    have e := vals_nil r2
    subst e
    refine SeqAt.RcNeAt.tuples (e := fun _ => true) p1 p2 hu (fun j _ h2 => absurd h2 (Nat.not_lt_zero j)) _ _ _ _ ?_
    cases r1 with
    | nil => exact ⟨.bl false, H, I, rfl, q⟩
    | cons r r1 => exact ⟨.bl true, H, I, rfl, q⟩
section
variable {ι : Type} {X : ι → Cx} {k : Nat} {P : Program} {w : World} {K : PySem.W.Frag} {mg : Str → Option Value} {base : Heap} {W : WX}
def fNil (neg : Bool) : Dt → Dt → Option Bool := fun d e => match d, e with
  | .list ds, .list [] => some (if neg then !ds.isEmpty else ds.isEmpty)
  | .tuple ds, .tuple [] => some (if neg then !ds.isEmpty else ds.isEmpty)
  | _, _ => none
theorem nil_go {neg : Bool} {ω : Om} {H : Hp} {x y : V} {d e : Dt} {z : Bool} {Q : VK} (bx : Bor K ω H x d) (by' : Bor K ω H y e) (hf : fNil neg d e = some z) (q : Q (.bl z) H) : rNil K neg x y H Q := by
  unfold fNil at hf
  split at hf
  · cases hf
    obtain ⟨a, xs, rfl, h1, h2⟩ := bor_lst bx
    obtain ⟨b, ys, rfl, g1, g2⟩ := bor_lst by'
    cases g2
    refine ⟨a, b, xs, rfl, rfl, .inl ⟨.of h1, .of g1⟩, ?_⟩
    cases h2 <;> exact q
  · cases hf
    obtain ⟨a, xs, rfl, h1, h2⟩ := bor_tup bx
    obtain ⟨b, ys, rfl, g1, g2⟩ := bor_tup by'
    cases g2
    refine ⟨a, b, xs, rfl, rfl, .inr ⟨sqT_mono hid_le h1, sqT_mono hid_le g1⟩, ?_⟩
    cases h2 <;> exact q
  · cases hf
/-- two texts, whatever their signs are -/
def fSc (neg : Bool) : Dt → Dt → Option Bool := fun d e => match d, e with
  | .str x, .str y => some (if neg then !decide (x = y) else decide (x = y))
  | _, _ => none
theorem dec_strV (x y : Str) : decide (V.str x = V.str y) = decide (x = y) := by
  rw [decide_eq_decide]
  exact ⟨fun h => by injection h, fun h => by rw [h]⟩
theorem c_eqSc : CmpS X K .Eq (fSc false) := by
  refine ⟨_, fun _ => op_eq, fun ω H x y d e z Q bx by' hf q => ?_⟩
  unfold fSc at hf
  split at hf
  · cases hf
    have h1 := bx.rp
    have h2 := by'.rp
    cases h1
    cases h2
    exact ⟨rfl, by rw [dec_strV]; exact q⟩
  · cases hf
theorem c_neSc : CmpS X K .NotEq (fSc true) := by
  refine ⟨_, fun _ => op_ne, fun ω H x y d e z Q bx by' hf q => ?_⟩
  unfold fSc at hf
  split at hf
  · cases hf
    have h1 := bx.rp
    have h2 := by'.rp
    cases h1
    cases h2
    exact ⟨rfl, by rw [dec_strV]; exact q⟩
  · cases hf
def fEqA : Dt → Dt → Option Bool := alt (fNil false) (alt (fSc false) fEq)
def fNeA : Dt → Dt → Option Bool := alt (fNil true) (alt (fSc true) fNe)
theorem c_eqA (C : VC X k P w K mg base W) : CmpS X K .Eq fEqA :=
  CmpS.or ⟨rNil K false, fun i => by rw [← C.eK i]; exact op_eqNil (C.rm i).units0, fun ω H x y d e z Q bx by' hf q => nil_go bx by' hf q⟩ (c_eqSc.or (c_eq C))
theorem c_neA (C : VC X k P w K mg base W) : CmpS X K .NotEq fNeA :=
  CmpS.or ⟨rNil K true, fun i => by rw [← C.eK i]; exact op_neNil (C.rm i).units0, fun ω H x y d e z Q bx by' hf q => nil_go bx by' hf q⟩ (c_neSc.or (c_ne C))
theorem eqA_int (i j : Int) : fEqA (.int i) (.int j) = some (decide (i = j)) := fEq_int i j
theorem neA_int (i j : Int) : fNeA (.int i) (.int j) = some (!decide (i = j)) := fNe_int i j
theorem eqA_str {x y : Str} (hx : PyData.strOk x = true) (hy : PyData.strOk y = true) : fEqA (.str x) (.str y) = some (decide (x = y)) := rfl
theorem neA_str {x y : Str} (hx : PyData.strOk x = true) (hy : PyData.strOk y = true) : fNeA (.str x) (.str y) = some (!decide (x = y)) := rfl
theorem eqA_txt (x y : Str) : fEqA (.str x) (.str y) = some (decide (x = y)) := rfl
theorem eqA_nil (ds : List Dt) : fEqA (.list ds) (.list []) = some ds.isEmpty := rfl
theorem neA_nil (ds : List Dt) : fNeA (.list ds) (.list []) = some (!ds.isEmpty) := rfl
theorem eqA_nilT (ds : List Dt) : fEqA (.tuple ds) (.tuple []) = some ds.isEmpty := rfl
end
end VL

namespace VL
open PySem PySem.Spec L2
open PyProof.Rows hiding St
variable [WW]
def reV (a : Addr) : SV → SV
  | .dk _ q b c => .dk a q b c
  | .se _ d => .se a d
  | .v d => .v d
  | .o d => .o d
def reS (a : Addr) (ss : SS) : SS := ss.map (Option.map (reV a))
def EO.re {α : Type} (a : Addr) : EO α → EO α
  | .ok d ss => .ok d (reS a ss)
  | .exc c fs ss => .exc c fs (reS a ss)
  | .no => .no
def SO.re (a : Addr) : SO → SO
  | .nx ss => .nx (reS a ss)
  | .rt d ss => .rt d (reS a ss)
  | .bk ss => .bk (reS a ss)
  | .ct ss => .ct (reS a ss)
  | .exc c fs ss => .exc c fs (reS a ss)
  | .no => .no
def Nt {α : Type} (m : SS → EO α) : Prop := ∀ a ss, m (reS a ss) = (m ss).re a
def NtS (m : SS → SO) : Prop := ∀ a ss, m (reS a ss) = (m ss).re a
def NtG {β : Type} (g : β → SS → Option SS) : Prop := ∀ a d ss, g d (reS a ss) = (g d ss).map (reS a)
section
variable {α β γ : Type} {a : Addr} {ss : SS}
theorem reS_get (i : Nat) : (reS a ss)[i]? = (ss[i]?).map (Option.map (reV a)) := by unfold reS; rw [List.getElem?_map]
theorem reS_len : (reS a ss).length = ss.length := by unfold reS; rw [List.length_map]
theorem reS_set {i : Nat} {s : Option SV} : reS a (ss.set i s) = (reS a ss).set i (s.map (reV a)) := by unfold reS; rw [List.map_set]
theorem get_re (o : Opd) : o.get (reS a ss) = o.get ss := by
  cases o with
  | da d => rfl
  | nm i =>
    simp only [Opd.get, reS_get]
    rcases h : ss[i]? with _ | _ | s
    · rfl
    · rfl
    · cases s <;> rfl
theorem ops_re : ∀ os : List Opd, opsGet (reS a ss) os = opsGet ss os
  | [] => rfl
  | o :: os => by simp only [opsGet, get_re, ops_re os]
theorem two_re {f : Dt → Dt → Option α} {o p : Opd} : two f o p (reS a ss) = two f o p ss := by simp only [two, get_re]
theorem nt_bind {m : SS → EO α} {f : α → SS → EO β} (h : Nt m) (g : ∀ d, Nt (f d)) : Nt fun ss => (m ss).bind f := fun a ss => by
  show (m (reS a ss)).bind f = EO.re a ((m ss).bind f)
  rw [h a ss]
  cases m ss with
  | ok d s' => exact g d a s'
  | exc c fs s' => rfl
  | no => rfl
theorem nt_st {m : SS → EO α} {f : α → SS → SO} (h : Nt m) (g : ∀ d, NtS (f d)) : NtS fun ss => (m ss).st f := fun a ss => by
  show (m (reS a ss)).st f = SO.re a ((m ss).st f)
  rw [h a ss]
  cases m ss with
  | ok d s' => exact g d a s'
  | exc c fs s' => rfl
  | no => rfl
theorem nt_ok (d : α) : Nt fun ss => .ok d ss := fun _ _ => rfl
theorem nt_no : Nt fun _ => (.no : EO α) := fun _ _ => rfl
theorem nt_lift (x : Option α) : Nt fun ss => .lift x ss := fun a ss => by cases x <;> rfl
theorem nt_liftg {f : SS → Option α} (h : ∀ a ss, f (reS a ss) = f ss) : Nt fun ss => .lift (f ss) ss := fun a ss => by
  show EO.lift (f (reS a ss)) (reS a ss) = EO.re a (EO.lift (f ss) ss)
  rw [h a ss]
  cases f ss <;> rfl
theorem nt_fit {n : Nat} {m : SS → EO α} (h : Nt m) : Nt fun ss => fit n (m ss) := fun a ss => by
  unfold fit
  split
  · exact h a ss
  · rfl
theorem nt_calm {m : SS → EO α} (h : Nt m) : Nt fun ss => (m ss).calm := fun a ss => by
  show (m (reS a ss)).calm = EO.re a (m ss).calm
  rw [h a ss]
  cases m ss <;> rfl
theorem nts_nx : NtS SO.nx := fun _ _ => rfl
theorem nts_bk : NtS SO.bk := fun _ _ => rfl
theorem nts_ct : NtS SO.ct := fun _ _ => rfl
theorem nts_no : NtS fun _ => .no := fun _ _ => rfl
theorem nts_rt (d : Dt) : NtS fun ss => .rt d ss := fun _ _ => rfl
theorem nt_C (d : Dt) : Nt (mC d) := fun _ _ => rfl
theorem nt_Var (i : Nat) : Nt (mVar i) := fun a ss => by
  unfold mVar
  rw [reS_get]
  rcases h : ss[i]? with _ | _ | s
  · rfl
  · rfl
  · cases s with
    | o d =>
      show EO.ok d ((reS a ss).set i (some (.v d))) = .ok d (reS a (ss.set i (some (.v d))))
      rw [reS_set]
      rfl
    | _ => rfl
theorem nt_Bor (i : Nat) : Nt (mBor i) := fun a ss => by
  unfold mBor
  rw [reS_get]
  rcases h : ss[i]? with _ | _ | s
  · rfl
  · rfl
  · cases s <;> rfl
theorem nt_B {m : SS → EO Dt} (h : Nt m) : Nt (mB m) := nt_bind h fun d => nt_ok _
theorem nt_Nil : Nt mNil := fun _ _ => rfl
theorem nt_Cons {m : SS → EO Dt} {n : SS → EO (List Dt)} (h : Nt m) (g : Nt n) : Nt (mCons m n) := nt_bind h fun d => nt_bind g fun e => nt_ok _
theorem nt_NilB : Nt mNilB := fun _ _ => rfl
theorem nt_ConsB {m : SS → EO Opd} {n : SS → EO (List Opd)} (h : Nt m) (g : Nt n) : Nt (mConsB m n) := nt_bind h fun d => nt_bind g fun e => nt_ok _
theorem nt_Tup {n : SS → EO (List Dt)} (g : Nt n) : Nt (mTup n) := nt_bind g fun e => nt_fit (nt_ok _)
theorem nt_Lst {n : SS → EO (List Dt)} (g : Nt n) : Nt (mLst n) := nt_bind g fun e => nt_fit (nt_ok _)
theorem nt_Cmp {f : Dt → Dt → Option Bool} {m n : SS → EO Opd} (h : Nt m) (g : Nt n) : Nt (mCmp f m n) := nt_bind h fun o => nt_bind g fun p => nt_liftg fun _ _ => two_re
theorem nt_Bl {m : SS → EO Bool} (h : Nt m) : Nt (mBl m) := nt_bind h fun d => nt_ok _
theorem nt_if {c : Prop} [Decidable c] {m n : SS → EO α} (h : Nt m) (g : Nt n) : Nt fun ss => if c then m ss else n ss := fun a ss => by
  split
  · exact h a ss
  · exact g a ss
theorem nts_if {c : Prop} [Decidable c] {m n : SS → SO} (h : NtS m) (g : NtS n) : NtS fun ss => if c then m ss else n ss := fun a ss => by
  split
  · exact h a ss
  · exact g a ss
theorem nt_Chain {f g : Dt → Dt → Option Bool} {m n l : SS → EO Opd} (h1 : Nt m) (h2 : Nt n) (h3 : Nt l) : Nt (mChain f g m n l) :=
  nt_bind h1 fun o => nt_bind h2 fun p => nt_bind (nt_liftg fun _ _ => two_re) fun z => nt_if (nt_bind h3 fun q => nt_liftg fun _ _ => two_re) (nt_ok _)
theorem nt_toB {m : SS → EO Dt} (h : Nt m) : Nt (toB m) := nt_bind h fun d => by cases d <;> first | exact nt_ok _ | exact nt_no
theorem nt_Not {m : SS → EO Bool} (h : Nt m) : Nt (mNot m) := nt_bind h fun d => nt_ok _
theorem nt_And {m n : SS → EO Bool} (h : Nt m) (g : Nt n) : Nt (mAnd m n) := nt_bind h fun d => nt_if g (nt_ok _)
theorem nt_Or {m n : SS → EO Bool} (h : Nt m) (g : Nt n) : Nt (mOr m n) := nt_bind h fun d => nt_if (nt_ok _) g
theorem nt_vAnd {m n : SS → EO Dt} (h : Nt m) (g : Nt n) : Nt (vAnd m n) := nt_bind h fun d => by
  cases d with
  | bool z => cases z; exact nt_ok _; exact g
  | _ => exact nt_no
theorem nt_vOr {m n : SS → EO Dt} (h : Nt m) (g : Nt n) : Nt (vOr m n) := nt_bind h fun d => by
  cases d with
  | bool z => cases z; exact g; exact nt_ok _
  | _ => exact nt_no
theorem nt_vNot {m : SS → EO Dt} (h : Nt m) : Nt (vNot m) := nt_bind h fun d => by cases d <;> first | exact nt_ok _ | exact nt_no
theorem nt_If {c : SS → EO Bool} {m n : SS → EO α} (h : Nt c) (g : Nt m) (k : Nt n) : Nt (mIf c m n) := nt_bind h fun d => nt_if g k
theorem nt_Bin {f : Dt → Dt → Option Dt} {m n : SS → EO Opd} (h : Nt m) (g : Nt n) : Nt (mBin f m n) := nt_bind h fun o => nt_bind g fun p => nt_liftg fun _ _ => two_re
theorem nt_Neg {m : SS → EO Dt} (h : Nt m) : Nt (mNeg m) := nt_bind h fun d => by cases d <;> first | exact nt_ok _ | exact nt_no
theorem nt_Res {g : List Dt → Res Dt} {m : SS → EO (List Dt)} (h : Nt m) : Nt (mRes g m) := nt_bind h fun ds => by
  intro a ss
  cases g ds <;> rfl
theorem nt_ResK {pm : List Dt → List Dt} {g : List Dt → Res Dt} {m : SS → EO (List Dt)} (h : Nt m) : Nt (mResK pm g m) := nt_Res h
theorem nt_Bu {f : List Dt → Option Dt} {m : SS → EO (List Opd)} (h : Nt m) : Nt (mBu f m) := nt_bind h fun os => nt_liftg fun a ss => by rw [ops_re]
theorem nt_Ou {f : List Dt → Option (List Dt)} {m : SS → EO (List Opd)} (h : Nt m) : Nt (mOu f m) := nt_bind h fun os => nt_liftg fun a ss => by rw [ops_re]
theorem nt_Isi {T : String} {m : SS → EO Opd} (h : Nt m) : Nt (mIsi T m) := nt_bind h fun o => nt_liftg fun a ss => by rw [get_re]
theorem nt_Part0 : Nt mPart0 := fun _ _ => rfl
theorem nt_Part {m : SS → EO Dt} (h : Nt m) : Nt (mPart m) := nt_bind h fun d => by cases d <;> first | exact nt_ok _ | exact nt_no
theorem nt_Sl {m : SS → EO Opd} {l k : SS → EO (Option Int)} (h : Nt m) (g : Nt l) (f : Nt k) : Nt (mSl m l k) := nt_bind h fun o => nt_bind g fun lo => nt_bind f fun hi => nt_liftg fun a ss => by rw [get_re]
theorem nt_SlL {m : SS → EO Opd} {l k : SS → EO (Option Int)} (h : Nt m) (g : Nt l) (f : Nt k) : Nt (mSlL m l k) := nt_bind h fun o => nt_bind g fun lo => nt_bind f fun hi => nt_liftg fun a ss => by rw [get_re]
theorem nt_Rev {m : SS → EO Opd} (h : Nt m) : Nt (mRev m) := nt_bind h fun o => nt_liftg fun a ss => by rw [get_re]
theorem nt_Dict0 : Nt mDict0 := fun _ _ => rfl
theorem nt_M1 {f : List Dt → Option Dt} {m n : SS → EO Opd} (h : Nt m) (g : Nt n) : Nt (mM1 f m n) := nt_bind h fun o => by
  cases o with
  | nm i => exact nt_no
  | da d =>
    cases d with
    | str z => exact nt_bind g fun p => nt_liftg fun a ss => by rw [get_re]
    | _ => exact nt_no
theorem nt_M0 {f : List Dt → Option Dt} {m : SS → EO Opd} (h : Nt m) : Nt (mM0 f m) := nt_bind h fun o => by
  cases o with
  | nm i => exact nt_no
  | da d =>
    cases d with
    | str z => exact nt_lift _
    | _ => exact nt_no
theorem nt_Mn {f : List Dt → Option Dt} {m : SS → EO Opd} {n : SS → EO (List Opd)} (h : Nt m) (g : Nt n) : Nt (mMn f m n) := nt_bind h fun o => by
  cases o with
  | nm i => exact nt_no
  | da d =>
    cases d with
    | str z => exact nt_bind g fun p => nt_liftg fun a ss => by rw [ops_re]
    | _ => exact nt_no
theorem nt_Draw {i : Nat} {g : Dk → List Dt → Res (Dt × Dk)} {m : SS → EO (List Dt)} (h : Nt m) : Nt (mDraw i g m) := fun a ss => by
  unfold mDraw
  rw [reS_get]
  rcases hi : ss[i]? with _ | _ | s
  · rfl
  · rfl
  · cases s with
    | v d => rfl
    | o d => rfl
    | se _ d => rfl
    | dk a0 q b c =>
      refine nt_bind (m := m) (f := fun ds ss1 => match ss1[i]? with
        | some (some (.dk a q b c)) => match g (q, b, c) ds with
          | .ok (d, (q', b', c')) => .ok d (ss1.set i (some (.dk a q' b' c')))
          | _ => .no
        | _ => .no) h (fun ds => ?_) a ss
      intro a1 s1
      dsimp only
      rw [reS_get]
      rcases hj : s1[i]? with _ | _ | s
      · rfl
      · rfl
      · cases s with
        | v d => rfl
        | o d => rfl
        | se _ d => rfl
        | dk a0 q b c =>
          show (match g (q, b, c) ds with
            | .ok (d, (q', b', c')) => EO.ok d ((reS a1 s1).set i (some (.dk a1 q' b' c')))
            | _ => .no) = EO.re a1 (match g (q, b, c) ds with
            | .ok (d, (q', b', c')) => EO.ok d (s1.set i (some (.dk a0 q' b' c')))
            | _ => .no)
          cases g (q, b, c) ds with
          | ok r =>
            obtain ⟨d, q', b', c'⟩ := r
            show EO.ok d ((reS a1 s1).set i (some (.dk a1 q' b' c'))) = .ok d (reS a1 (s1.set i (some (.dk a0 q' b' c'))))
            rw [reS_set]
            rfl
          | exc c fs => rfl
          | no => rfl
theorem ng_Nm (i : Nat) : NtG (gNm i) := fun a d ss => by
  unfold gNm
  rw [reS_len]
  split
  · show some ((reS a ss).set i (some (.v d))) = some (reS a (ss.set i (some (.v d))))
    rw [reS_set]
    rfl
  · rfl
theorem ng_Nil : NtG gNilV := fun a d ss => by cases d <;> rfl
theorem ng_Cons {g : Dt → SS → Option SS} {h : List Dt → SS → Option SS} (h1 : NtG g) (h2 : NtG h) : NtG (gConsV g h) := fun a ds ss => by
  cases ds with
  | nil => rfl
  | cons d ds =>
    simp only [gConsV, h1 a d ss]
    cases g d ss with
    | none => rfl
    | some s1 => exact h2 a ds s1
theorem ng_Tup {n : Nat} {h : List Dt → SS → Option SS} (h2 : NtG h) : NtG (gTupV n h) := fun a d ss => by
  cases d with
  | tuple ds =>
    simp only [gTupV]
    split
    · exact h2 a ds ss
    · rfl
  | _ => rfl
theorem nt_Items {m : SS → EO Dt} (h : Nt m) : Nt (mItems m) := nt_bind h fun d => nt_lift _
theorem nt_Rng1 {m : SS → EO (List Dt)} (h : Nt m) : Nt (mRng1 m) := nt_bind h fun ds => by
  intro a ss
  dsimp only
  split
  · split <;> rfl
  · rfl
theorem nt_Rng2 {m : SS → EO (List Dt)} (h : Nt m) : Nt (mRng2 m) := nt_bind h fun ds => by
  intro a ss
  dsimp only
  split
  · split <;> rfl
  · rfl
theorem nt_Enum {m : SS → EO (List Dt)} (h : Nt m) : Nt (mEnum m) := nt_bind h fun ds => by
  intro a ss
  dsimp only
  split <;> rfl
theorem nt_Zip {m : SS → EO (List Dt)} (h : Nt m) : Nt (mZip m) := nt_bind h fun ds => by
  intro a ss
  dsimp only
  split <;> rfl
theorem nt_Yes : Nt mYes := fun _ _ => rfl
theorem wipe_re : ∀ vs : List Nat, wipeS (reS a ss) vs = reS a (wipeS ss vs)
  | [] => rfl
  | v :: vs => by simp only [wipeS, wipe_re vs, reS_set]; rfl
theorem rest_re {s1 s2 : SS} : ∀ vs : List Nat, restS (reS a s1) (reS a s2) vs = reS a (restS s1 s2 vs)
  | [] => rfl
  | v :: vs => by
    simp only [restS, rest_re vs, reS_set, reS_get]
    congr 1
    rcases h : s1[v]? with _ | _ | s
    · rfl
    · rfl
    · cases s <;> rfl
theorem nt_lcGo {vs : List Nat} {g : Dt → SS → Option SS} {mt : SS → EO Bool} {me : SS → EO Dt} (h1 : NtG g) (h2 : Nt mt) (h3 : Nt me) : ∀ (ds acc : List Dt), Nt fun ss => lcGo vs g mt me ds ss acc
  | [], acc => fun a ss => rfl
  | d :: ds, acc => fun a ss => by
    show lcGo vs g mt me (d :: ds) (reS a ss) acc = EO.re a (lcGo vs g mt me (d :: ds) ss acc)
    rw [lcGo, lcGo, h1 a d ss]
    cases g d ss with
    | none => rfl
    | some s1 =>
      refine nt_bind (m := fun ss => (mt ss).calm) (f := fun z ss2 => if z = true then (me ss2).calm.bind fun y ss3 => if acc.length < sizeLine then lcGo vs g mt me ds (wipeS ss3 vs) (acc ++ [y]) else .no else lcGo vs g mt me ds (wipeS ss2 vs) acc) (nt_calm h2) (fun z => nt_if (nt_bind (m := fun ss => (me ss).calm) (nt_calm h3) fun y => nt_if (fun a s3 => ?_) nt_no) fun a s3 => ?_) a s1
      · show lcGo vs g mt me ds (wipeS (reS a s3) vs) (acc ++ [y]) = _
        rw [wipe_re]
        exact nt_lcGo h1 h2 h3 ds (acc ++ [y]) a _
      · show lcGo vs g mt me ds (wipeS (reS a s3) vs) acc = _
        rw [wipe_re]
        exact nt_lcGo h1 h2 h3 ds acc a _
theorem nt_Lc {m : SS → EO (List Dt)} {vs : List Nat} {g : Dt → SS → Option SS} {mt : SS → EO Bool} {me : SS → EO Dt} (h : Nt m) (h1 : NtG g) (h2 : Nt mt) (h3 : Nt me) : Nt (mLc m vs g mt me) := fun a ss => by
  unfold mLc
  rw [h a ss]
  cases m ss with
  | exc c fs s => rfl
  | no => rfl
  | ok items s1 =>
    show (lcGo vs g mt me items (wipeS (reS a s1) vs) []).bind (fun acc ss2 => EO.ok (PyData.list acc) (restS (reS a s1) ss2 vs)) = EO.re a ((lcGo vs g mt me items (wipeS s1 vs) []).bind fun acc ss2 => EO.ok (PyData.list acc) (restS s1 ss2 vs))
    have e : lcGo vs g mt me items (reS a (wipeS s1 vs)) [] = (lcGo vs g mt me items (wipeS s1 vs) []).re a := nt_lcGo h1 h2 h3 items [] a (wipeS s1 vs)
    rw [wipe_re, e]
    cases lcGo vs g mt me items (wipeS s1 vs) [] with
    | exc c fs s => rfl
    | no => rfl
    | ok acc s2 =>
      show EO.ok (PyData.list acc) (restS (reS a s1) (reS a s2) vs) = EO.ok (PyData.list acc) (reS a (restS s1 s2 vs))
      rw [rest_re]
theorem nt_Fz {m : SS → EO Dt} (h : Nt m) : Nt (mFz m) := nt_bind h fun d => nt_ok _
theorem nt_Ow {m : SS → EO Dt} (h : Nt m) : Nt (mOw m) := nt_bind h fun d => nt_ok _
theorem sv_re (n : NV) : reV a n.sv = n.sv := by cases n <;> rfl
theorem ns_Seq {m n : SS → SO} (h : NtS m) (g : NtS n) : NtS (mSeq m n) := fun a ss => by
  unfold mSeq
  rw [h a ss]
  cases m ss with
  | nx s1 => exact g a s1
  | _ => rfl
theorem ns_Ret {m : SS → EO Dt} (h : Nt m) : NtS (mRet m) := nt_st h fun d => nts_rt d
theorem ns_If {c : SS → EO Bool} {m n : SS → SO} (h : Nt c) (g : NtS m) (k : NtS n) : NtS (mIfS c m n) := nt_st h fun d => nts_if g k
theorem ns_Drop {m : SS → EO α} (h : Nt m) : NtS (mDrop m) := nt_st h fun d => nts_nx
theorem ns_Set {i : Nat} {m : SS → EO NV} (h : Nt m) : NtS (mSet i m) := nt_st h fun n => fun a ss => by
  rw [reS_len]
  split
  · show SO.nx ((reS a ss).set i (some n.sv)) = .nx (reS a (ss.set i (some n.sv)))
    rw [reS_set]
    show _ = SO.nx ((reS a ss).set i (some (reV a n.sv)))
    rw [sv_re]
  · rfl
theorem ns_Par {i j : Nat} {m n : SS → EO NV} (h : Nt m) (g : Nt n) : NtS (mPar i j m n) := nt_st h fun d => nt_st g fun e => fun a ss => by
  rw [reS_len]
  split
  · show SO.nx (((reS a ss).set i (some d.sv)).set j (some e.sv)) = .nx (reS a ((ss.set i (some d.sv)).set j (some e.sv)))
    rw [reS_set, reS_set]
    show _ = SO.nx (((reS a ss).set i (some (reV a d.sv))).set j (some (reV a e.sv)))
    rw [sv_re, sv_re]
  · rfl
theorem ownL_re {i : Nat} : ownL (reS a ss) i = ownL ss i := by
  unfold ownL
  rw [reS_get]
  rcases h : ss[i]? with _ | _ | s
  · rfl
  · rfl
  · cases s with
    | o d => cases d <;> rfl
    | _ => rfl
theorem ns_Append {i : Nat} {m : SS → EO Dt} (h : Nt m) : NtS (mAppend i m) := fun a ss => by
  unfold mAppend
  rw [ownL_re]
  cases ownL ss i with
  | none => rfl
  | some ds0 =>
    refine nt_st (m := m) (f := fun d ss => match ownL ss i with
      | some ds => if ds.length < sizeLine then .nx (ss.set i (some (.o (.list (ds ++ [d]))))) else .no
      | none => .no) h (fun d => fun a s1 => ?_) a ss
    dsimp only
    rw [ownL_re]
    cases ownL s1 i with
    | none => rfl
    | some ds =>
      dsimp only
      split
      · show SO.nx ((reS a s1).set i (some (.o (.list (ds ++ [d]))))) = .nx (reS a (s1.set i (some (.o (.list (ds ++ [d]))))))
        rw [reS_set]
        rfl
      · rfl
theorem ns_Asg {g : Dt → SS → Option SS} {m : SS → EO Dt} (h1 : NtG g) (h : Nt m) : NtS (mAsg g m) := nt_st h fun d => fun a ss => by
  rw [h1 a d ss]
  cases g d ss <;> rfl
theorem ns_forGo {g : Dt → SS → Option SS} {n : SS → SO} (h1 : NtG g) (h2 : NtS n) : ∀ ds : List Dt, NtS (forGo g n ds)
  | [] => fun a ss => rfl
  | d :: ds => fun a ss => by
    rw [forGo, forGo, h1 a d ss]
    cases g d ss with
    | none => rfl
    | some s1 =>
      dsimp only [Option.map]
      rw [h2 a s1]
      cases n s1 with
      | nx s2 => exact ns_forGo h1 h2 ds a s2
      | ct s2 => exact ns_forGo h1 h2 ds a s2
      | _ => rfl
theorem ns_For {m : SS → EO (List Dt)} {g : Dt → SS → Option SS} {n : SS → SO} (h : Nt m) (h1 : NtG g) (h2 : NtS n) : NtS (mFor m g n) := nt_st h fun items => ns_forGo h1 h2 items
theorem dkOf_re {i : Nat} : dkOf (reS a ss) i = (dkOf ss i).map fun r => (a, r.2) := by
  unfold dkOf
  rw [reS_get]
  rcases h : ss[i]? with _ | _ | s
  · rfl
  · rfl
  · cases s <;> rfl
theorem nt_DkI {i : Nat} {j : Int} : Nt (mDkI i j) := fun a ss => by
  unfold mDkI
  rw [dkOf_re]
  rcases h : dkOf ss i with _ | ⟨b, q, c, d⟩
  · rfl
  · dsimp only [Option.map]
    split
    · rfl
    · split <;> rfl
theorem ns_DkSet {i : Nat} {m : SS → EO Dt} (h : Nt m) : NtS (mDkSet i m) := nt_st h fun d => fun a ss => by
  rw [dkOf_re]
  cases d with
  | int n =>
    rcases h : dkOf ss i with _ | ⟨b, q, c, d⟩
    · rfl
    · show SO.nx ((reS a ss).set i (some (.dk a q c n))) = .nx (reS a (ss.set i (some (.dk b q c n))))
      rw [reS_set]
      rfl
  | _ => rfl
theorem nt_DkNe {i : Nat} : Nt (mDkNe i) := fun a ss => by
  unfold mDkNe
  rw [dkOf_re]
  rcases h : dkOf ss i with _ | ⟨b, q, c, d⟩ <;> rfl
theorem nt_DkPop {i : Nat} : Nt (mDkPop i) := fun a ss => by
  unfold mDkPop
  rw [dkOf_re]
  rcases h : dkOf ss i with _ | ⟨b, q, c, d⟩
  · rfl
  · dsimp only [Option.map]
    cases q.getLast? with
    | none => rfl
    | some z =>
      show EO.ok (PyData.int z) ((reS a ss).set i (some (.dk a q.dropLast c d))) = .ok (PyData.int z) (reS a (ss.set i (some (.dk b q.dropLast c d))))
      rw [reS_set]
      rfl
theorem ns_DkApp {i u v : Nat} : NtS (mDkApp i u v) := fun a ss => by
  unfold mDkApp
  rw [dkOf_re, reS_get, reS_get]
  rcases h : dkOf ss i with _ | ⟨b, q, c, d⟩
  · rfl
  · rcases hu : ss[u]? with _ | _ | su
    · rfl
    · rfl
    · cases su with
      | o d => rfl
      | dk => rfl
      | se => rfl
      | v d' =>
        cases d' with
        | int n =>
          rcases hv : ss[v]? with _ | _ | sv
          · rfl
          · rfl
          · cases sv with
            | o d => rfl
            | dk => rfl
            | se => rfl
            | v d' =>
              cases d' with
              | int m =>
                dsimp only [Option.map, reV]
                split
                · show SO.nx ((reS a ss).set i (some (.dk a (q ++ [n / m]) c d))) = .nx (reS a (ss.set i (some (.dk b (q ++ [n / m]) c d))))
                  rw [reS_set]
                  rfl
                · rfl
              | _ => rfl
        | _ => rfl
/-- what comes out, whichever address -/
def dkAny (ss : SS) : Option Dk := match ss[0]? with
  | some (some (SV.dk _ q b c)) => some (q, b, c)
  | _ => none
def outX : SO → Res (Dt × Dk)
  | .rt d ss => match dkAny ss with
    | some dk => .ok (d, dk)
    | none => .no
  | .nx ss => match dkAny ss with
    | some dk => .ok (.none, dk)
    | none => .no
  | _ => .no
theorem dkAt_re : dkAt a (reS a ss) = dkAny ss := by
  unfold dkAt dkAny
  rw [reS_get]
  rcases h : ss[0]? with _ | _ | s
  · rfl
  · rfl
  · cases s with
    | dk a0 q b c =>
      show (if a = a then some (q, b, c) else none) = _
      rw [if_pos rfl]
    | _ => rfl
theorem outD_re (o : SO) : outD a (o.re a) = outX o := by
  cases o with
  | nx s =>
    simp only [SO.re, outD, outX, dkAt_re]
    all_goals (cases dkAny s <;> rfl)
  | rt d s =>
    simp only [SO.re, outD, outX, dkAt_re]
    all_goals (cases dkAny s <;> rfl)
  | _ => rfl
theorem startD_re {N : List Str} {dk : Dk} {ds : List Dt} : reS a (startD 0 N dk ds) = startD a N dk ds := by
  unfold reS startD
  rw [List.map_cons, List.map_append, List.map_map, List.map_replicate]
  rfl
theorem nt_deck {m : SS → SO} (h : NtS m) {N : List Str} {dk : Dk} {ds : List Dt} : outD a (m (startD a N dk ds)) = outX (m (startD 0 N dk ds)) := by
  rw [← startD_re, h a, outD_re]
theorem startW_re {N : List Str} {q : List Int} {b : Int} : reS a (startW 0 N q b) = startW a N q b := by
  unfold reS startW
  rw [List.map_cons, List.map_cons, List.map_replicate]
  rfl
end
end VL

namespace VL
open PySem PySem.Spec L2
open PyProof.Rows hiding St
variable [WW]
def txt (l : List Nat) : Str := ⟨l.toArray⟩
theorem txt_list (z : Str) : txt z.cps.toList = z := by
  obtain ⟨⟨l⟩⟩ := z
  rfl
theorem txt_app (l m : List Nat) : txt l ++ txt m = txt (l ++ m) := by
  show (⟨l.toArray ++ m.toArray⟩ : Str) = ⟨(l ++ m).toArray⟩
  simp
theorem join_txt (ls : List (List Nat)) : Txt.join "" (ls.map txt) = txt ls.flatten := by
  unfold Txt.join
  rw [PySem.StrLaws.glued_eq_join]
  have nil : ∀ l : List Nat, txt l ++ ("" : Str) = txt l := fun l => (txt_app l []).trans (by rw [List.append_nil])
  induction ls with
  | nil => rfl
  | cons l ls ih =>
    cases ls with
    | nil =>
      show txt l = _
      simp
    | cons m ls =>
      show txt l ++ ("" : Str) ++ Str.join "" ((m :: ls).map txt) = _
      rw [ih, nil, txt_app]
      rfl
theorem join_signs (l : List Nat) : Txt.join "" (l.map fun c => ⟨#[c]⟩) = txt l := by
  have e : (l.map fun c => (⟨#[c]⟩ : Str)) = (l.map fun c => [c]).map txt := by
    rw [List.map_map]
    rfl
  rw [e, join_txt]
  congr 1
  clear e
  induction l with
  | nil => rfl
  | cons c l ih => simp [ih]
theorem txt_len (l : List Nat) : (txt l).length = l.length := by
  show l.toArray.size = _
  simp
theorem join_empty_strs (zs : List Str) : Txt.join "" zs = txt (zs.map fun z => z.cps.toList).flatten := by
  have e : zs = (zs.map fun z => z.cps.toList).map txt := by
    rw [List.map_map]
    have : (txt ∘ fun z : Str => z.cps.toList) = id := by funext z; exact txt_list z
    rw [this, List.map_id]
  conv => lhs; rw [e]
  exact join_txt _
theorem padS_txt {x : Str} {n c : Nat} (h : x.length ≤ n) : padS x (n : Int) c = txt (x.cps.toList ++ List.replicate (n - x.length) c) := by
  unfold padS
  split
  · have e : n = x.length := by omega
    rw [e, Nat.sub_self, List.replicate_zero, List.append_nil, txt_list]
  · obtain ⟨⟨l⟩⟩ := x
    unfold Builtin.Str.padded txt
    rw [Int.toNat_natCast]
    simp
theorem takeWhile_rep {p : Nat → Bool} {c : Nat} (hc : p c = true) : ∀ (n : Nat) (l : List Nat), (∀ d ∈ l, p d = false) → (List.replicate n c ++ l).takeWhile p = List.replicate n c
  | 0, l, h => by
    cases l with
    | nil => rfl
    | cons d l => simp [h d]
  | n + 1, l, h => by
    rw [List.replicate_succ, List.cons_append, List.takeWhile_cons, if_pos hc, takeWhile_rep hc n l h]
theorem rstrip_txt {xs : List Nat} (h : ∀ c ∈ xs, c ≠ 45) (n : Nat) : Txt.rstripChars (txt (xs ++ List.replicate n 45)) "-" = txt xs := by
  unfold Txt.rstripChars
  rw [PyProof.Rows.stripBy_eq]
  have e0 : stripLo (("-" : Str).cps.contains) false (txt (xs ++ List.replicate n 45)) = 0 := rfl
  rw [e0]
  have p45 : ("-" : Str).cps.contains 45 = true := by decide +kernel
  have pne : ∀ d, d ≠ 45 → ("-" : Str).cps.contains d = false := fun d hd => by
    have e : ("-" : Str).cps = #[45] := by decide +kernel
    rw [e]
    simpa using hd
  have e1 : stripHi (("-" : Str).cps.contains) true (txt (xs ++ List.replicate n 45)) 0 = xs.length := by
    unfold stripHi
    rw [if_pos rfl]
    have er : (((txt (xs ++ List.replicate n 45)).cps.toList.drop 0).reverse) = List.replicate n 45 ++ xs.reverse := by
      simp [txt]
    rw [er, takeWhile_rep p45 n _ fun d hd => pne d (h d (List.mem_reverse.mp hd)), txt_len]
    simp
  rw [e1]
  unfold Builtin.Str.strSub txt
  simp
end VL

namespace VL
open PySem PySem.Spec L2
open PyProof.Rows hiding St
variable [WW]

/-- an instance of the class c -/
def ins (c : Str) (ns ds : List Dt) : Dt := .dict [(.none, .str c), (.tuple ns, .tuple ds)]
def lookN (f : Str) : List Dt → List Dt → Option Dt
  | .str g :: ns, d :: ds => if f = g then some d else lookN f ns ds
  | _, _ => none
def fFld (c f : Str) : Dt → Option Dt
  | .dict [(.none, .str c'), (.tuple ns, .tuple ds)] => if c' = c then lookN f ns ds else none
  | _ => none
def putN (f : Str) : List Dt → List Dt
  | [] => [.str f]
  | .str g :: ns => if g = f then .str g :: ns else .str g :: putN f ns
  | n :: ns => n :: ns
def putV (f : Str) (z : Dt) : List Dt → List Dt → List Dt
  | .str g :: ns, d :: ds => if g = f then z :: ds else d :: putV f z ns ds
  | _, _ => [z]
def fPut (c f : Str) (z : Dt) : Dt → Option Dt
  | .dict [(.none, .str c'), (.tuple ns, .tuple ds)] => if c' = c ∧ ds.length < 1000 then some (.dict [(.none, .str c), (.tuple (putN f ns), .tuple (putV f z ns ds))]) else none
  | _ => none
section
variable {K : PySem.W.Frag} {H : Hp}
theorem look_n {f : Str} {z : Dt} : ∀ {fs : List (Str × V)} {ds : List Dt}, RpA K H (fs.map (·.2)) ds → lookN f (fs.map fun p => .str p.1) ds = some z → ∃ v, fs.lookup f = some v ∧ Rp K H v z
  | [], ds, _, h => by
    unfold lookN at h
    cases h
  | (g, v) :: fs, ds, r, h => by
    cases r with
    | @cons _ _ d ds r1 r2 =>
      have h : (if f = g then some d else lookN f (fs.map fun p => .str p.1) ds) = some z := h
      by_cases e : f = g
      · rw [if_pos e] at h
        cases h
        subst e
        exact ⟨v, by simp [List.lookup], r1⟩
      · rw [if_neg e] at h
        obtain ⟨u, q1, q2⟩ := look_n r2 h
        exact ⟨u, by simp [List.lookup, beq_eq_false_iff_ne.mpr e, q1], q2⟩
theorem put_n (f : Str) (y : V) : ∀ fs : List (Str × V), (L2.putF f y fs).map (fun p => (PyData.str p.1 : Dt)) = putN f (fs.map fun p => .str p.1)
  | [] => rfl
  | (g, x) :: r => by
    show (if g = f then (g, y) :: r else (g, x) :: L2.putF f y r).map _ = (if g = f then PyData.str g :: r.map (fun p => (PyData.str p.1 : Dt)) else .str g :: putN f (r.map fun p => .str p.1))
    by_cases e : g = f
    · rw [if_pos e, if_pos e]; rfl
    · rw [if_neg e, if_neg e, List.map_cons, put_n f y r]
theorem put_v {f : Str} {y : V} {z : Dt} (hy : Rp K H y z) : ∀ {fs : List (Str × V)} {ds : List Dt}, RpA K H (fs.map (·.2)) ds → RpA K H ((L2.putF f y fs).map (·.2)) (putV f z (fs.map fun p => .str p.1) ds)
  | [], ds, r => by
    cases r
    exact .one hy
  | (g, x) :: fs, ds, r => by
    cases r with
    | @cons _ _ d ds r1 r2 =>
      show RpA K H ((if g = f then (g, y) :: fs else (g, x) :: L2.putF f y fs).map (·.2)) (if g = f then z :: ds else d :: putV f z (fs.map fun p => .str p.1) ds)
      by_cases e : g = f
      · rw [if_pos e, if_pos e]
        exact .cons hy r2
      · rw [if_neg e, if_neg e]
        exact .cons r1 (put_v hy r2)
theorem rpk_not_ins {kvs : List (Key × V)} {d : Dt} {ds : List (Dt × Dt)} (h : RpK K H kvs ((.none, d) :: ds)) : False := by
  generalize e : ((PyData.none, d) :: ds : List (Dt × Dt)) = l at h
  cases h with
  | nil => cases e
  | @cons k _ _ _ _ h1 h2 => cases k <;> cases e
theorem rpn_not_ins {kvs : List (NestedKey × Addr × V)} {d : Dt} {ds : List (Dt × Dt)} (h : RpN K H kvs ((.none, d) :: ds)) : False := by
  generalize e : ((PyData.none, d) :: ds : List (Dt × Dt)) = l at h
  cases h with
  | nil => cases e
  | cons => cases e
/-- an instance, as it stands -/
theorem rp_ins {x : V} {c : Str} {ns ds : List Dt} (h : Rp K H x (.dict [(.none, .str c), (.tuple ns, .tuple ds)])) : ∃ a dx fs, x = .ref a ∧ H a = some (.ins (WW.cl c) dx fs) ∧ ns = fs.map (fun p => .str p.1) ∧ RpA K H (fs.map (·.2)) ds := by
  generalize e : (PyData.dict [(.none, .str c), (.tuple ns, .tuple ds)] : Dt) = d at h
  cases h with
  | dK h1 h2 => cases e; exact (rpk_not_ins h2).elim
  | dN h1 hn h2 => cases e; exact (rpn_not_ins h2).elim
  | ob h1 h2 => cases e; exact ⟨_, _, _, rfl, h1, rfl, h2⟩
  | _ => cases e
theorem bor_ins {ω : Om} {x : V} {c : Str} {ns ds : List Dt} (h : Bor K ω H x (.dict [(.none, .str c), (.tuple ns, .tuple ds)])) : ∃ a dx fs, x = .ref a ∧ H a = some (.ins (WW.cl c) dx fs) ∧ ns = fs.map (fun p => .str p.1) ∧ RpA K (hid ω H) (fs.map (·.2)) ds := by
  rcases h with h | ⟨a, rfl, h⟩
  · obtain ⟨a, dx, fs, h1, h2, h3, h4⟩ := rp_ins h
    exact ⟨a, dx, fs, h1, hid_le _ _ h2, h3, h4⟩
  · rcases h with ⟨ds', xs, e, _⟩ | ⟨ds', xs, e, h2, h3⟩ | ⟨ds', xs, e, h2, hn, h3⟩ | ⟨c', dx, fs, ds', e, h2, h3⟩
    · cases e
    · cases e; exact (rpk_not_ins h3).elim
    · cases e; exact (rpn_not_ins h3).elim
    · cases e; exact ⟨_, _, _, rfl, h2, rfl, h3⟩
theorem fld_some {c f : Str} {d z : Dt} (h : fFld c f d = some z) : ∃ ns ds, d = .dict [(.none, .str c), (.tuple ns, .tuple ds)] ∧ lookN f ns ds = some z := by
  unfold fFld at h
  split at h
  · rename_i c' ns ds
    split at h
    · rename_i e
      subst e
      exact ⟨ns, ds, rfl, h⟩
    · cases h
  · cases h
theorem put_some {c f : Str} {d z d2 : Dt} (h : fPut c f z d = some d2) : ∃ ns ds, d = .dict [(.none, .str c), (.tuple ns, .tuple ds)] ∧ ds.length < 1000 ∧ d2 = .dict [(.none, .str c), (.tuple (putN f ns), .tuple (putV f z ns ds))] := by
  unfold fPut at h
  split at h
  · rename_i c' ns ds
    split at h
    · rename_i e
      cases h
      obtain ⟨rfl, e⟩ := e
      exact ⟨ns, ds, rfl, e, rfl⟩
    · cases h
  · cases h
end
/-- what the top has made of a class -/
structure ClsA (K : PySem.W.Frag) (mg : Str → Option Value) (c : Str) (fs : List Str) : Prop where
  cl : Cls K (WW.cl c)
  mgC : mg c = some (.ref (WW.cl c))
  no : ∀ f ∈ fs, NoAttr K (WW.cl c) f
section
variable {ι : Type} {X : ι → Cx} {k : Nat} {P : Program} {w : World} {K : PySem.W.Frag} {mg : Str → Option Value} {base : Heap} {W : WX} {e a b : Expr} {es : List Expr} {pos : Pos}
def mFld (c f : Str) (m : SS → EO Opd) : SS → EO Dt := fun ss => (m ss).bind fun o ss => .lift ((o.get ss).bind (fFld c f)) ss
/-- e.f -/
theorem v_fld (C : VC X k P w K mg base W) {c f : Str} {fs : List Str} {m : SS → EO Opd} (T : ClsA K mg c fs) (hf : f ∈ fs) (h : VB X K mg W e m) (hb : ∀ i, attributeBase e f (X i).env (eval e (X i).env) = eval e (X i).env := by intro _; rfl) : VE X K mg W (.Attribute e f pos) (mFld c f m) := by
  obtain ⟨t, a1, a2⟩ := h.ex
  refine ⟨tFld K t f, fun i => by rw [← C.eK i]; exact pe_fld (a1 i) (hb i), fun ω ss σ H Q rs q => a2 ω ss σ H _ rs ?_⟩
  refine seqE q fun o ss1 ω1 H1 x _ rs1 fr1 rp1 q1 => ?_
  obtain ⟨z, hz, q1⟩ := lift_get q1
  obtain ⟨d, e1, e2⟩ := Option.bind_eq_some_iff.mp hz
  obtain ⟨ns, ds, rfl, e3⟩ := fld_some e2
  obtain ⟨p, dx, gs, rfl, h2, rfl, h4⟩ := bor_ins (Opd.bor rs1 rp1 e1)
  obtain ⟨v, l1, l2⟩ := look_n h4 e3
  exact ⟨p, _, dx, gs, v, rfl, h2, T.cl, T.no f hf, l1, q1 ω1 H1 v rs1 (.refl _ _) l2⟩
/-- one or the other -/
def EO.or {α : Type} (x y : EO α) : EO α := match x with
  | .no => y
  | _ => x
theorem PE.or {Y : Cx} {t u : TE} (h : PE Y e t) (g : PE Y e u) : PE Y e (fun σ H Q => t σ H Q ∨ u σ H Q) := ⟨fun pins s σ H Q I q => q.elim (h.run pins s σ H Q I) (g.run pins s σ H Q I)⟩
theorem VE.or {m n : SS → EO Dt} (h : VE X K mg W e m) (g : VE X K mg W e n) : VE X K mg W e (fun ss => (m ss).or (n ss)) := by
  obtain ⟨t, a1, a2⟩ := h.ex
  obtain ⟨u, b1, b2⟩ := g.ex
  refine ⟨_, fun i => PE.or (a1 i) (b1 i), fun ω ss σ H Q rs q => ?_⟩
  cases hm : m ss with
  | no =>
    rw [hm] at q
    exact .inr (b2 ω ss σ H Q rs q)
  | ok d s1 =>
    rw [hm] at q
    exact .inl (a2 ω ss σ H Q rs (by rw [hm]; exact q))
  | exc c fs s1 =>
    rw [hm] at q
    exact .inl (a2 ω ss σ H Q rs (by rw [hm]; exact q))
/-- not reached -/
theorem v_no : VE X K mg W e (fun _ => .no) := ⟨fun _ _ _ => False, fun _ => ⟨fun _ _ _ _ _ _ h => h.elim⟩, fun _ _ _ _ _ _ q => q⟩
theorem s_no {st : Stmt} : VS X K mg W st (fun _ => .no) := ⟨fun _ _ _ => False, fun _ => ⟨fun _ _ _ _ _ _ h => h.elim⟩, fun _ _ _ _ _ _ q => q⟩
/-- self.f = e -/
def mSetF (i : Nat) (c f : Str) (m : SS → EO Dt) : SS → SO := fun ss => (m ss).st fun z ss => match ss[i]? with
  | some (some (.se a d)) => match fPut c f z d with
    | some d2 => .nx (ss.set i (some (.se a d2)))
    | none => .no
  | _ => .no
theorem s_setF (C : VC X k P w K mg base W) (i : Nat) {c f x : Str} {fs : List Str} {p1 p2 : Pos} {m : SS → EO Dt} (T : ClsA K mg c fs) (hf : f ∈ fs) (h : VE X K mg W e m) (hN : ∀ j, (X j).N[i]? = some x := by intro _; rfl) (hv : ∀ j, Vis (X j).env.scope x := by intro _; first | exact .inl rfl | exact .inr (.inl rfl) | exact .inr (.inr rfl)) (hd : (x == ("__debug__" : Str)) = false := by decide) (hcd : (x == ("__classdict__" : Str)) = false := by decide)
    (hs : ∀ j, swapsWith e (some (.Attribute (.Name x p1) f p2)) pos.line (X j).env = pure false := by intro _; rfl) : VS X K mg W (.Assign [.Attribute (.Name x p1) f p2] e pos) (mSetF i c f m) := by
  obtain ⟨t, a1, a2⟩ := h.ex
  refine ⟨sFld K (tVar i) t f, fun j => by rw [← C.eK j]; exact ps_fld (pe_var (hN j) (hv j) hd hcd) (a1 j) (hs j), fun ω ss σ H D rs q => a2 ω ss σ H _ rs ?_⟩
  refine seqS q fun z ss1 ω1 H1 y _ rs1 fr1 rp1 q1 => ?_
  split at q1
  case h_2 => exact q1.elim
  rename_i p d hi
  split at q1
  case h_2 => exact q1.elim
  rename_i d2 hp
  obtain ⟨ns, ds, rfl, hl, rfl⟩ := put_some hp
  obtain ⟨x0, w1, rfl, w2, w3⟩ := rs1.sl i _ hi
  rcases w3 with ⟨ds', xs, e', _⟩ | ⟨ds', xs, e', _, h3⟩ | ⟨ds', xs, e', _, _, h3⟩ | ⟨c', dx, gs, ds', e', h2, h3⟩
  · cases e'
  · cases e'; exact (rpk_not_ins h3).elim
  · cases e'; exact (rpn_not_ins h3).elim
  · cases e'
    have em : hid ω1 (upd H1 p (.ins (WW.cl c) dx (L2.putF f y gs))) = hid ω1 H1 := by
      funext b
      by_cases hb : b = p
      · subst hb
        unfold hid
        rw [w2]
      · unfold hid
        rw [upd_ne hb]
    obtain ⟨m1, m2, m3⟩ := rs1.mut (o := .ins (WW.cl c) dx (L2.putF f y gs)) (s := .se p (.dict [(.none, .str c), (.tuple (putN f (gs.map fun p => .str p.1)), .tuple (putV f z (gs.map fun p => .str p.1) ds))])) w2 w1
      ⟨rfl, w2, .inr (.inr (.inr ⟨c, dx, L2.putF f y gs, _, by rw [put_n], upd_same, by rw [em]; exact put_v rp1 h3⟩))⟩
    have hlen : gs.length < 1000 := by
      have := h3.length
      rw [List.length_map] at this
      omega
    exact ⟨_, w1, p, _, dx, gs, rfl, h2, T.cl, T.no f hf, hlen, q1 ω1 σ _ m1 m2⟩
end
end VL

namespace VL
open PySem PySem.Spec L2
open PyProof.Rows hiding St
variable [WW]

section
variable {Y : Cx} {k : Nat} {f C : Addr} {fd : FuncData} {ps ks : List Str} {sp : Sp} {E : St → XK} {x m : Str} {p pos apos : Pos} {e o : Expr} {es : List Expr} {kws : List Keyword} {t tk : TA} {ta : TE}
theorem run_makeG {pins : List (Addr × Obj)} {σ : St} {H : Hp} {s : Shared} {Q : VK} {us : List Value} {vs : List V} (M : Mk Y.K C f) (F : FnG Y.prog Y.w Y.K Y.mg Y.base k f fd ps sp) (hr : Room (k + 1) Y.A) (hg : Y.A.guards = some []) (hb : Binds Y.K fd ps [])
    (hx : PassesAt (L2.CX Y.prog Y.w) Y σ (E σ)) (I : Inv Y pins σ H s) (r : Vals vs us)
    (h : ∀ x dx, H x = none → H dx = none → dx ≠ x → sp (.ref x :: vs) (upd (upd H dx (.own x)) x (.ins C dx [])) (fun v H2 => v = .non ∧ Q (.ref x) H2) (E σ)) :
    wpAny (model Y.prog Y.w) Y.A (PySem.call (.ref C) us) (EP Y pins σ Q) Y.xe s := by
  have hq := h (s.heap.objs.size + 1) s.heap.objs.size (I.hok.fresh (Nat.le_succ _)) (I.hok.fresh (Nat.le_refl _)) (Nat.ne_of_lt (Nat.lt_succ_self _))
  have I2 := Inv.made (C := C) I
  have r2 : Vals (V.ref (s.heap.objs.size + 1) :: vs) (Value.ref (s.heap.objs.size + 1) :: us) := .cons rfl r
  have hl : (Value.ref (s.heap.objs.size + 1) :: us ++ []).length = ps.length := by
    have e := r2.length
    rw [F.len _ _ _ _ hq] at e
    rw [List.append_nil]
    exact e.symm
  have b1 := hb _ (Value.ref (s.heap.objs.size + 1) :: us) I2.kIn hl
  rw [List.append_nil] at b1
  refine wpAny_call (make_map (f := f) I.kIn M.makes M.init (beq_iff_eq.mp M.fn) (codeAny_mono (F.go _ Y.stack _ _ ⟨Value.ref (s.heap.objs.size + 1) :: us, []⟩ (Value.ref (s.heap.objs.size + 1) :: us) _ _ (E σ) (hr.make C us []) hg
    (I2.env0.make C us []) b1 r2 hq) fun r s' hq' => ?_))
  cases r with
  | error e => exact hx pins _ _ e s' I2 hq'
  | ok fl =>
    cases fl with
    | ret u =>
      obtain ⟨v, H', I3, rv, ev, q3⟩ := I2.after hq'
      subst ev
      exact ⟨rv, ⟨V.ref (s.heap.objs.size + 1), H', I3, rfl, q3⟩⟩
    | next => exact False.elim hq'
    | brk => exact False.elim hq'
    | cont => exact False.elim hq'
/-- C(e, ..) -/
theorem pe_makeG (M : Mk Y.K C f) (F : FnG Y.prog Y.w Y.K Y.mg Y.base k f fd ps sp) (hr : Room (k + 1) Y.A) (hgd : Y.A.guards = some []) (hg : Gl Y x) (hm : Y.mg x = some (.ref C)) (hb : Binds Y.K fd ps []) (hx : ∀ σ, PassesAt (L2.CX Y.prog Y.w) Y σ (E σ))
    (ha : PA Y (e :: es) t) (hdb : (x == ("__debug__" : Str)) = false) (he : starEach (e :: es) Y.env = (false, eval e Y.env) :: starEach es Y.env) (hpl : (backTo pos (starEach es Y.env)).any (·.1) = false) :
    PE Y (.Call (.Name x p) (e :: es) [] pos) (fun σ H Q => t σ H fun vs H1 => ∀ x dx, H1 x = none → H1 dx = none → dx ≠ x → sp (.ref x :: vs) (upd (upd H1 dx (.own x)) x (.ins C dx [])) (fun v H2 => v = .non ∧ Q (.ref x) H2) (E σ)) := by
  refine ⟨fun pins s σ H Q I h => wpAny_Call_Name_kw (ld_glob I hg hm ?_ hdb)⟩
  refine PySem.W.callWith_K (h₀ := Y.base) I.ok.mod.kin M.kp (thn (ha.run pos pins s σ H _ I h) fun us s1 ⟨vs, H1, I1, r, q⟩ => ⟨I1.kIn, ?_⟩) he hpl
  exact run_makeG M F hr hgd hb (hx σ) I1 r q
theorem pe_makeG0 (M : Mk Y.K C f) (F : FnG Y.prog Y.w Y.K Y.mg Y.base k f fd ps sp) (hr : Room (k + 1) Y.A) (hgd : Y.A.guards = some []) (hg : Gl Y x) (hm : Y.mg x = some (.ref C)) (hb : Binds Y.K fd ps []) (hx : ∀ σ, PassesAt (L2.CX Y.prog Y.w) Y σ (E σ))
    (hdb : (x == ("__debug__" : Str)) = false) :
    PE Y (.Call (.Name x p) [] [] pos) (fun σ H1 Q => ∀ x dx, H1 x = none → H1 dx = none → dx ≠ x → sp [.ref x] (upd (upd H1 dx (.own x)) x (.ins C dx [])) (fun v H2 => v = .non ∧ Q (.ref x) H2) (E σ)) := by
  refine ⟨fun pins s σ H Q I h => wpAny_Call_Name_kw (ld_glob I hg hm ?_ hdb)⟩
  exact PySem.W.callWith_K0 I.kIn M.kp (run_makeG (us := []) M F hr hgd hb (hx σ) I .nil h)
def tMethS (C : Addr) (m : Str) (sp : Sp) (E : St → XK) (ta : TE) (t : TA) : TE := fun σ H Q => ta σ H fun x H1 => ∃ a dx fs, x = .ref a ∧ H1 a = some (.ins C dx fs) ∧ fs.lookup m = none ∧
  t σ H1 fun vs H2 => sp (x :: vs) H2 Q (E σ)
/-- o.m(e, ..) -/
theorem pe_methG {pl : Sem Bool} (he : PE Y o ta) (c : Cls Y.K C) (hm : Meth Y.K C m f) (F : FnG Y.prog Y.w Y.K Y.mg Y.base k f fd ps sp) (hr : Room k Y.A) (hgd : Y.A.guards = some []) (hb : Binds Y.K fd ps []) (hx : ∀ σ, PassesAt (L2.CX Y.prog Y.w) Y σ (E σ)) (ha : PA Y (e :: es) t)
    (hst : starEach (e :: es) Y.env = (false, eval e Y.env) :: starEach es Y.env) (hpl : (backTo pos (starEach es Y.env)).any (·.1) = false)
    (ht : eval (.Call (.Attribute o m apos) (e :: es) [] pos) Y.env = (do
      let ov ← eval o Y.env
      standAt apos.atName
      let (f, first) ← holding [ov] (getMethod ov m pl)
      callWith pos f first (backTo pos (starEach (e :: es) Y.env)) (backToKw pos (keywordEach [] Y.env)))) :
    PE Y (.Call (.Attribute o m apos) (e :: es) [] pos) (tMethS C m sp E ta t) := by
  refine ⟨fun pins s σ H Q I h => ?_⟩
  refine PySem.W.methodCall_KW (pl := pl) (thn (he.run pins s σ H _ I h) fun u s1 ⟨x, H1, I1, rx, a, dx, fs, ex, ea, l, q⟩ => ?_) ht
  subst ex
  obtain rfl : u = Value.ref a := rx
  refine getmeth_ok I1 ea c hm l ?_
  refine PySem.W.callWith_K (first := [.ref a]) (h₀ := Y.base) I.ok.mod.kin hm.kp (thn (ha.run pos pins s1 σ H1 _ I1 q) fun us s2 ⟨vs, H2, I2, r, q2⟩ => ⟨I2.kIn, ?_⟩) hst hpl
  have r2 : Vals (V.ref a :: vs) (Value.ref a :: us) := .cons rfl r
  have lv : (Value.ref a :: us ++ []).length = ps.length := by rw [List.append_nil, ← r2.length]; exact F.len _ _ _ _ q2
  have b1 := hb s2 (.ref a :: us) I2.kIn lv
  rw [List.append_nil] at b1
  exact run_gw F hr hgd (hx σ) I2 b1 r2 q2
/-- o.m() -/
theorem pe_methG0 {pl : Sem Bool} (he : PE Y o ta) (c : Cls Y.K C) (hm : Meth Y.K C m f) (F : FnG Y.prog Y.w Y.K Y.mg Y.base k f fd ps sp) (hr : Room k Y.A) (hgd : Y.A.guards = some []) (hb : Binds Y.K fd ps []) (hx : ∀ σ, PassesAt (L2.CX Y.prog Y.w) Y σ (E σ))
    (ht : eval (.Call (.Attribute o m apos) [] [] pos) Y.env = (do
      let ov ← eval o Y.env
      standAt apos.atName
      let (f, first) ← holding [ov] (getMethod ov m pl)
      callWith pos f first (backTo pos (starEach [] Y.env)) (backToKw pos (keywordEach [] Y.env)))) :
    PE Y (.Call (.Attribute o m apos) [] [] pos) (tMethS C m sp E ta tNil) := by
  refine ⟨fun pins s σ H Q I h => ?_⟩
  refine PySem.W.methodCall_KW (pl := pl) (thn (he.run pins s σ H _ I h) fun u s1 ⟨x, H1, I1, rx, a, dx, fs, ex, ea, l, q⟩ => ?_) ht
  subst ex
  obtain rfl : u = Value.ref a := rx
  refine getmeth_ok I1 ea c hm l ?_
  have q : sp [.ref a] H1 Q (E σ) := q
  have r2 : Vals [V.ref a] [Value.ref a] := .cons rfl .nil
  have lv : ([Value.ref a] ++ []).length = ps.length := by rw [List.append_nil, ← r2.length]; exact F.len _ _ _ _ q
  have b1 := hb s1 [.ref a] I1.kIn lv
  rw [List.append_nil] at b1
  exact PySem.W.callWith_K0 (first := [.ref a]) I1.kIn hm.kp (run_gw (us := [.ref a]) F hr hgd (hx σ) I1 b1 r2 q)
/-- o.m(k = e, ..): keywords alone -/
theorem pe_methGK {pl : Sem Bool} {g : List Value → List Value → List Value} {gV : List V → List V → List V} (he : PE Y o ta) (c : Cls Y.K C) (hm : Meth Y.K C m f) (F : FnG Y.prog Y.w Y.K Y.mg Y.base k f fd ps sp) (hr : Room k Y.A) (hgd : Y.A.guards = some [])
    (hb : KBinds Y.K fd ps ks g gV) (hx : ∀ σ, PassesAt (L2.CX Y.prog Y.w) Y σ (E σ)) (hkw : PK Y kws tk) (hall : (backToKw pos (keywordEach kws Y.env)).all (·.1.isSome) = true) (hks : (backToKw pos (keywordEach kws Y.env)).filterMap (·.1) = ks)
    (hpl : ((backTo pos (starEach [] Y.env)).any (·.1) || (backToKw pos (keywordEach kws Y.env)).any (·.1.isNone)) = false)
    (ht : eval (.Call (.Attribute o m apos) [] kws pos) Y.env = (do
      let ov ← eval o Y.env
      standAt apos.atName
      let (f, first) ← holding [ov] (getMethod ov m pl)
      callWith pos f first (backTo pos (starEach [] Y.env)) (backToKw pos (keywordEach kws Y.env)))) :
    PE Y (.Call (.Attribute o m apos) [] kws pos) (fun σ H Q => ta σ H fun x H1 => ∃ a dx fs, x = .ref a ∧ H1 a = some (.ins C dx fs) ∧ fs.lookup m = none ∧ tk σ H1 fun zs H2 => sp (gV [x] zs) H2 Q (E σ)) := by
  refine ⟨fun pins s σ H Q I h => ?_⟩
  refine PySem.W.methodCall_KW (pl := pl) (thn (he.run pins s σ H _ I h) fun u s1 ⟨x, H1, I1, rx, a, dx, fs, ex, ea, l, q⟩ => ?_) ht
  subst ex
  obtain rfl : u = Value.ref a := rx
  refine getmeth_ok I1 ea c hm l ?_
  refine PySem.W.callWith_KW0 (first := [.ref a]) (h₀ := Y.base) I.ok.mod.kin hm.kp hall (thn (hkw.run pos pins s1 σ H1 _ I1 q) fun ws s2 hv => ?_) hpl
  obtain ⟨zs, H2, I2, r, q2⟩ := hv
  refine ⟨I2.kIn, ?_⟩
  rw [hks]
  have r0 : Vals [V.ref a] [Value.ref a] := .cons rfl .nil
  have r2 := hb.rel r0 r
  have lv : (g [.ref a] ws).length = ps.length := by rw [← r2.length]; exact F.len _ _ _ _ q2
  exact run_gw F hr hgd (hx σ) I2 (hb.to s2 [.ref a] ws I2.kIn lv) r2 q2
end

inductive RsS where
  | ok (r d : Dt)
  | exc (c : Str) (fs : List (Str × Dt)) (d : Dt)
  | no
/-- what is left behind -/
structure KeepS (F H F' H' : Hp) (x : Addr) : Prop where
  f : Same F F'
  g : Same F' H'
  n : F' x = none
  k : ∀ y o, H y = some o → y ≠ x → H' y = some o ∧ (F y = none → F' y = none)
  t : ∀ y, H' y = none → H y = none
def spS (K : PySem.W.Frag) (mg : Str → Option Value) (n : Nat) (g : Dt → List Dt → RsS) : Sp := fun vs H Q E => ∃ (x : Addr) (vr : List V) (F : Hp) (d0 : Dt) (ds : List Dt), vs = .ref x :: vr ∧ vr.length + 1 = n ∧ OwC K F x (H x) d0 ∧ F x = none ∧ Same F H ∧ RpA K F vr ds ∧ match g d0 ds with
  | .ok r d => ∀ F' H' v, KeepS F H F' H' x → OwC K F' x (H' x) d → Rp K F' v r → Q v H'
  | .exc c fs d => ∀ F' H' cls dd, KeepS F H F' H' x → OwC K F' x (H' x) d → XR K mg F' c fs cls dd → E cls dd H'
  | .no => False
def startE (a : Addr) (d0 : Dt) (N : List Str) (ds : List Dt) : SS := some (SV.se a d0) :: (ds.map (fun d => some (SV.v d)) ++ List.replicate (N.length - (ds.length + 1)) none)
def seAt (a : Addr) (ss : SS) : Option Dt := match ss[0]? with
  | some (some (SV.se a' d)) => if a' = a then some d else none
  | _ => none
def outS (a : Addr) : SO → RsS
  | .nx ss => match seAt a ss with
    | some d => .ok .none d
    | none => .no
  | .rt r ss => match seAt a ss with
    | some d => .ok r d
    | none => .no
  | .exc c fs ss => match seAt a ss with
    | some d => .exc c fs d
    | none => .no
  | _ => .no
def seAny (ss : SS) : Option Dt := match ss[0]? with
  | some (some (SV.se _ d)) => some d
  | _ => none
def outZ : SO → RsS
  | .nx ss => match seAny ss with
    | some d => .ok .none d
    | none => .no
  | .rt r ss => match seAny ss with
    | some d => .ok r d
    | none => .no
  | .exc c fs ss => match seAny ss with
    | some d => .exc c fs d
    | none => .no
  | _ => .no
theorem seAt_re {a : Addr} {ss : SS} : seAt a (reS a ss) = seAny ss := by
  unfold seAt seAny
  rw [reS_get]
  rcases h : ss[0]? with _ | _ | s
  · rfl
  · rfl
  · cases s with
    | se a0 d =>
      show (if a = a then some d else none) = _
      rw [if_pos rfl]
    | _ => rfl
theorem outS_re {a : Addr} (o : SO) : outS a (o.re a) = outZ o := by
  cases o with
  | nx s =>
    simp only [SO.re, outS, outZ, seAt_re]
    all_goals (cases seAny s <;> rfl)
  | rt d s =>
    simp only [SO.re, outS, outZ, seAt_re]
    all_goals (cases seAny s <;> rfl)
  | exc c fs s =>
    simp only [SO.re, outS, outZ, seAt_re]
    all_goals (cases seAny s <;> rfl)
  | _ => rfl
theorem startE_re {a : Addr} {d0 : Dt} {N : List Str} {ds : List Dt} : reS a (startE 0 d0 N ds) = startE a d0 N ds := by
  unfold reS startE
  simp [reV, Function.comp_def]
/-- mirrors do not look at the address -/
theorem nt_se {m : SS → SO} (h : NtS m) {a : Addr} {d0 : Dt} {N : List Str} {ds : List Dt} : outS a (m (startE a d0 N ds)) = outZ (m (startE 0 d0 N ds)) := by
  rw [← startE_re, h a, outS_re]
section
variable {P : Program} {w : World} {K : PySem.W.Frag} {mg : Str → Option Value} {base : Heap} {k : Nat} {f : Addr} {fd : FuncData} {N ps : List Str} {x qual : Str} {st : Stmt}
theorem seAt_at {a : Addr} {ss : SS} {d : Dt} (h : seAt a ss = some d) : ss[0]? = some (some (.se a d)) := by
  unfold seAt at h
  split at h
  · split at h
    · rename_i e
      cases h
      subst e
      assumption
    · cases h
  · cases h
/-- THE RULE for a def that changes its first argument -/
theorem fn_self {m : SS → SO} {g : Dt → List Dt → RsS} (hw : w = WW.w) (F : Fun K x qual st f fd) (S : FnScope N ps (defScope st)) (hN : N.length ≤ 1000)
    (body : ∀ (cdv : Value) (A : Around) (outer : List Env) (s : Shared) (H : Hp) (E : XK), VC (fX P w K mg base N qual (defScope st) f cdv A outer s H E) k P w K mg base (WX0 E) → VSs (fX P w K mg base N qual (defScope st) f cdv A outer s H E) K mg (WX0 E) (defBody st) m)
    (hg : ∀ a d0 ds, ds.length + 1 = ps.length → outS a (m (startE a d0 N ds)) = g d0 ds ∨ g d0 ds = .no) :
    FnG P w K mg base (k + 1) f fd ps (spS K mg ps.length g) := by
  refine FnG.of F S (fun vs H Q E z => ?_) fun cdv A outer s H vs Q E hr hgd hsp => ?_
  · obtain ⟨_, _, _, _, _, rfl, h, _⟩ := z
    exact h
  · obtain ⟨a, vr, F0, d0, ds, rfl, hl, hHa, ha, hF, rp, hq⟩ := hsp
    obtain ⟨t, t1, t2⟩ := (body cdv A outer s H E (VC.fn hw S.nd hr hgd)).ex
    have lds : ds.length + 1 = ps.length := by rw [← rp.length]; exact hl
    have hpl : ps.length ≤ N.length := by
      have := congrArg List.length S.pre
      rw [List.length_take] at this
      omega
    have hid0 := hid_om0 hF ha ha
    have la : om0 F0 H a a a = some 0 := if_pos (.inl rfl)
    have hsome : (H a).isSome = true := by
      rcases hHa with ⟨_, _, _, e, _⟩ | ⟨_, _, _, e, _⟩ | ⟨_, _, _, e, _⟩ | ⟨_, _, _, _, _, e, _⟩ <;> rw [e] <;> rfl
    refine ⟨t, t1 (), t2 (om0 F0 H a a) (startE a d0 N ds) (L2.start N (.ref a :: vr)) H _ ⟨?_, ?_, fun y j hy => ?_, fun i sv hi => ?_⟩ ?_⟩
    · unfold startE L2.start
      simp only [List.length_append, List.length_map, List.length_replicate, List.length_cons, rp.length]
      omega
    · unfold L2.start
      simp only [List.length_append, List.length_map, List.length_replicate, List.length_cons]
      omega
    · unfold om0 at hy
      split at hy
      · rename_i hc
        rcases hc with rfl | rfl
        · exact hsome
        · exact hsome
      · split at hy
        · rename_i hc
          exact Option.isSome_iff_ne_none.mpr hc.2
        · cases hy
    · cases i with
      | zero =>
        have e : SV.se a d0 = sv := by
          have z : some (some (SV.se a d0)) = some (some sv) := hi
          cases z
          rfl
        subst e
        exact ⟨.ref a, rfl, rfl, la, by rw [hid0]; exact hHa⟩
      | succ i =>
        have hi : (ds.map (fun d => some (SV.v d)) ++ List.replicate (N.length - (ds.length + 1)) none)[i]? = some (some sv) := hi
        by_cases hlt : i < ds.length
        · rw [List.getElem?_append_left (by simpa using hlt), List.getElem?_map, List.getElem?_eq_getElem hlt] at hi
          cases hi
          obtain ⟨v, h2, h3⟩ := rp.get (List.getElem?_eq_getElem hlt)
          refine ⟨v, start_get (show (V.ref a :: vr)[i + 1]? = some v from h2), ?_⟩
          show Rp K (hid (om0 F0 H a a) H) v _
          rw [hid0]
          exact h3
        · rw [List.getElem?_append_right (by simpa using hlt), List.getElem?_replicate] at hi
          split at hi <;> cases hi
    · have rest : ∀ {ω' : Om} {ss' : SS} {σ' : St} {H' : Hp} {d : Dt}, seAt a ss' = some d → RS K ω' ss' σ' H' → Frm (om0 F0 H a a) H ω' H' → KeepS F0 H (hid ω' H') H' a ∧ OwC K (hid ω' H') a (H' a) d := by
        intro ω' ss' σ' H' d h1 rs fr
        obtain ⟨x0, _, rfl, e1, e2⟩ := rs.sl 0 _ (seAt_at h1)
        have fz := fr.fz
        rw [hid0] at fz
        refine ⟨⟨fz, hid_le, by unfold hid; rw [e1], fun y o hy n1 => ?_, fr.tr⟩, e2⟩
        cases hFy : F0 y with
        | some o' =>
          have := hF y o' hFy
          rw [hy] at this
          cases this
          exact ⟨hid_le _ _ (fz y o hFy), fun z => nomatch z⟩
        | none =>
          have lab : om0 F0 H a a y = some 1000000 := by
            unfold om0
            rw [if_neg (fun z => z.elim n1 n1), if_pos ⟨hFy, by rw [hy]; exact fun z => nomatch z⟩]
          obtain ⟨g1, g2⟩ := fr.tp y 1000000 (by decide) lab
          exact ⟨g2.trans hy, fun _ => by unfold hid; rw [g1]⟩
      have hg := hg a d0 ds lds
      cases hm : m (startE a d0 N ds) with
      | rt r ss' =>
        rw [hm] at hg
        intro ω' σ' H' v rs fr rv
        simp only [outS] at hg
        split at hg
        · rename_i d h1
          rcases hg with hg | hg
          · rw [← hg] at hq
            obtain ⟨k1, k2⟩ := rest h1 rs fr
            exact hq _ H' v k1 k2 rv
          · rw [hg] at hq; exact hq.elim
        · have hg : g d0 ds = .no := hg.elim (fun z => z.symm) id
          rw [hg] at hq
          exact hq.elim
      | nx ss' =>
        rw [hm] at hg
        intro ω' σ' H' rs fr
        simp only [outS] at hg
        split at hg
        · rename_i d h1
          rcases hg with hg | hg
          · rw [← hg] at hq
            obtain ⟨k1, k2⟩ := rest h1 rs fr
            exact hq _ H' .non k1 k2 .non
          · rw [hg] at hq; exact hq.elim
        · have hg : g d0 ds = .no := hg.elim (fun z => z.symm) id
          rw [hg] at hq
          exact hq.elim
      | exc c fs ss' =>
        rw [hm] at hg
        intro ω' σ' H' cls dd rs fr xr
        simp only [outS] at hg
        split at hg
        · rename_i d h1
          rcases hg with hg | hg
          · rw [← hg] at hq
            obtain ⟨k1, k2⟩ := rest h1 rs fr
            exact hq _ H' cls dd k1 k2 xr
          · rw [hg] at hq; exact hq.elim
        · have hg : g d0 ds = .no := hg.elim (fun z => z.symm) id
          rw [hg] at hq
          exact hq.elim
      | bk ss' =>
        rw [hm] at hg
        have hg : g d0 ds = .no := hg.elim (fun z => z.symm) id
        rw [hg] at hq
        exact hq.elim
      | ct ss' =>
        rw [hm] at hg
        have hg : g d0 ds = .no := hg.elim (fun z => z.symm) id
        rw [hg] at hq
        exact hq.elim
      | no =>
        rw [hm] at hg
        have hg : g d0 ds = .no := hg.elim (fun z => z.symm) id
        rw [hg] at hq
        exact hq.elim
end
end VL

namespace VL
open PySem PySem.Spec L2
open PyProof.Rows hiding St
variable [WW]

/-- a method, as the top has written it -/
structure Dm (K : PySem.W.Frag) (c m q : Str) (st : Stmt) (ps : List Str) : Prop where
  ex : ∃ f fd, Fun K m q st f fd ∧ Meth K (WW.cl c) m f ∧ Binds K fd ps []
structure Gm (P : Program) (w : World) (K : PySem.W.Frag) (mg : Str → Option Value) (base : Heap) (k : Nat) (c m q : Str) (st : Stmt) (ps : List Str) (sp : Sp) : Prop where
  ex : ∃ f fd, Fun K m q st f fd ∧ Meth K (WW.cl c) m f ∧ Binds K fd ps [] ∧ FnG P w K mg base k f fd ps sp
/-- a class that is made by its __init__ -/
structure Di (K : PySem.W.Frag) (c q : Str) (st : Stmt) (ps : List Str) : Prop where
  ex : ∃ f fd, Fun K "__init__" q st f fd ∧ Mk K (WW.cl c) f ∧ Binds K fd ps []
structure Gi (P : Program) (w : World) (K : PySem.W.Frag) (mg : Str → Option Value) (base : Heap) (k : Nat) (c q : Str) (st : Stmt) (ps : List Str) (sp : Sp) : Prop where
  ex : ∃ f fd, Fun K "__init__" q st f fd ∧ Mk K (WW.cl c) f ∧ Binds K fd ps [] ∧ FnG P w K mg base k f fd ps sp
section
variable {P : Program} {w : World} {K : PySem.W.Frag} {mg : Str → Option Value} {base : Heap} {k : Nat} {c x q : Str} {st : Stmt} {ps N : List Str} {sp sp' : Sp}
theorem gm_pure {m : SS → SO} {n : Nat} {h : List Dt → Res Dt} (hw : w = WW.w) (D : Dm K c x q st ps) (S : FnScope N ps (defScope st)) (hN : N.length ≤ 1000) (en : ps.length = n) (e : ∀ ds, ds.length = n → outF (m (startS N ds)) = h ds ∨ h ds = .no)
    (body : ∀ (f : Addr) (cdv : Value) (A : Around) (outer : List Env) (s : Shared) (H : Hp) (E : XK), VC (fX P w K mg base N q (defScope st) f cdv A outer s H E) k P w K mg base (WX0 E) → VSs (fX P w K mg base N q (defScope st) f cdv A outer s H E) K mg (WX0 E) (defBody st) m) :
    Gm P w K mg base (k + 1) c x q st ps (spF K mg n h) :=
  let ⟨f, fd, F, hm, hb⟩ := D.ex
  ⟨f, fd, F, hm, hb, (fn_pure hw F S hN (body f)).imp (by rw [en]; exact spF_imp e)⟩
theorem gi_init {m : SS → SO} {n : Nat} {g : Dt → List Dt → RsS} (hw : w = WW.w) (D : Di K c q st ps) (S : FnScope N ps (defScope st)) (hN : N.length ≤ 1000) (en : ps.length = n) (e : ∀ a d0 ds, ds.length + 1 = n → outS a (m (startE a d0 N ds)) = g d0 ds ∨ g d0 ds = .no)
    (body : ∀ (f : Addr) (cdv : Value) (A : Around) (outer : List Env) (s : Shared) (H : Hp) (E : XK), VC (fX P w K mg base N q (defScope st) f cdv A outer s H E) k P w K mg base (WX0 E) → VSs (fX P w K mg base N q (defScope st) f cdv A outer s H E) K mg (WX0 E) (defBody st) m) :
    Gi P w K mg base (k + 1) c q st ps (spS K mg n g) :=
  let ⟨f, fd, F, hm, hb⟩ := D.ex
  ⟨f, fd, F, hm, hb, by subst en; exact fn_self hw F S hN (body f) e⟩
theorem gm_self {m : SS → SO} {n : Nat} {g : Dt → List Dt → RsS} (hw : w = WW.w) (D : Dm K c x q st ps) (S : FnScope N ps (defScope st)) (hN : N.length ≤ 1000) (en : ps.length = n) (e : ∀ a d0 ds, ds.length + 1 = n → outS a (m (startE a d0 N ds)) = g d0 ds ∨ g d0 ds = .no)
    (body : ∀ (f : Addr) (cdv : Value) (A : Around) (outer : List Env) (s : Shared) (H : Hp) (E : XK), VC (fX P w K mg base N q (defScope st) f cdv A outer s H E) k P w K mg base (WX0 E) → VSs (fX P w K mg base N q (defScope st) f cdv A outer s H E) K mg (WX0 E) (defBody st) m) :
    Gm P w K mg base (k + 1) c x q st ps (spS K mg n g) :=
  let ⟨f, fd, F, hm, hb⟩ := D.ex
  ⟨f, fd, F, hm, hb, by subst en; exact fn_self hw F S hN (body f) e⟩
end
def isC (c : Str) : Dt → Bool
  | .dict [(.none, .str c'), (.tuple _, .tuple _)] => decide (c' = c)
  | _ => false
def hasN (m : Str) (ns : List Dt) : Bool := ns.any fun n => match n with | .str g => decide (g = m) | _ => false
/-- an instance of c without an attribute m of its own -/
def isCM (c m : Str) : Dt → Bool
  | .dict [(.none, .str c'), (.tuple ns, .tuple _)] => decide (c' = c) && !(hasN m ns)
  | _ => false
theorem isC_some {c : Str} {d : Dt} (h : isC c d = true) : ∃ ns ds, d = .dict [(.none, .str c), (.tuple ns, .tuple ds)] := by
  unfold isC at h
  split at h
  · have e := of_decide_eq_true h
    subst e
    exact ⟨_, _, rfl⟩
  · cases h
theorem isCM_some {c m : Str} {d : Dt} (h : isCM c m d = true) : ∃ ns ds, d = .dict [(.none, .str c), (.tuple ns, .tuple ds)] ∧ hasN m ns = false := by
  unfold isCM at h
  split at h
  · rw [Bool.and_eq_true] at h
    have e := of_decide_eq_true h.1
    subst e
    exact ⟨_, _, rfl, by simpa using h.2⟩
  · cases h
theorem look_no {m : Str} : ∀ {fs : List (Str × V)}, hasN m (fs.map fun p => (.str p.1 : Dt)) = false → fs.lookup m = none
  | [], _ => rfl
  | (g, v) :: fs, h => by
    have h : (decide (g = m) || hasN m (fs.map fun p => (.str p.1 : Dt))) = false := h
    rw [Bool.or_eq_false_iff] at h
    have ne : ¬ m = g := fun e => by simpa [e] using h.1
    simp [List.lookup, beq_eq_false_iff_ne.mpr ne, look_no h.2]
section
variable {ι : Type} {X : ι → Cx} {k : Nat} {P : Program} {w : World} {K : PySem.W.Frag} {mg : Str → Option Value} {base : Heap} {W : WX} {e a b o : Expr} {es : List Expr} {pos p apos : Pos} {j n : Nat} {ps ks : List Str} {x c q : Str} {st : Stmt}
/-- C(e, ..) -/
def mMake (c : Str) (g : Dt → List Dt → RsS) (m : SS → EO (List Dt)) : SS → EO Dt := fun ss => (m ss).bind fun ds ss => match g (ins c [] []) ds with
  | .ok .none d => .ok d ss
  | .exc x fs _ => .exc x fs ss
  | _ => .no
theorem make_go {g : Dt → List Dt → RsS} {ω : Om} {ss : SS} {σ : St} {H : Hp} {vs : List V} {ds : List Dt} {Q : VK} {y dx : Addr} (rs : RS K ω ss σ H) (hl : vs.length + 1 = n) (rp : RpA K (hid ω H) vs ds) (ny : H y = none) (nd : H dx = none) (ne : dx ≠ y)
    (q : EQg (RpE K) K mg W ω σ H (match g (ins c [] []) ds with
      | .ok .none d => .ok d ss
      | .exc x fs _ => .exc x fs ss
      | _ => .no) Q) : spS K mg n g (.ref y :: vs) (upd (upd H dx (.own y)) y (.ins (WW.cl c) dx [])) (fun v H2 => v = .non ∧ Q (.ref y) H2) (WE W σ) := by
  obtain ⟨H2, e2⟩ : ∃ H2, H2 = upd (upd H dx (.own y)) y (.ins (WW.cl c) dx []) := ⟨_, rfl⟩
  rw [← e2]
  have s2 : Same H H2 := by
    rw [e2]
    exact (same_upd nd).trans (same_upd (by rw [upd_ne ne.symm]; exact ny))
  have at2 : H2 y = some (.ins (WW.cl c) dx []) := by rw [e2]; exact upd_same
  have hy : hid ω H y = none := by unfold hid; split <;> first | exact ny | rfl
  refine ⟨y, vs, hid ω H, ins c [] [], ds, rfl, hl, .inr (.inr (.inr ⟨c, dx, [], [], rfl, at2, .nil⟩)), hy, hid_le.trans s2, rp, ?_⟩
  have common : ∀ {F' H' : Hp}, KeepS (hid ω H) H2 F' H' y → RS K ω ss σ H' ∧ Frm ω H ω H' ∧ Same F' (hid ω H') := by
    intro F' H' kp
    have s3 : Same H H' := fun z u hz => (kp.k z u (s2 z u hz) (ne_of_none hz ny)).1
    refine ⟨rs.grow s3, .grow s3 rs.own, fun z u hz => ?_⟩
    have zω : ω z = none := by
      cases hω : ω z with
      | none => rfl
      | some k' =>
        obtain ⟨o', ho'⟩ := Option.isSome_iff_exists.mp (rs.own z k' hω)
        have := (kp.k z o' (s2 z o' ho') (ne_of_none ho' ny)).2 (by unfold hid; rw [hω])
        rw [this] at hz
        cases hz
    rw [hid_of zω]
    exact kp.g z u hz
  cases hg : g (ins c [] []) ds with
  | ok r d =>
    rw [hg] at q
    cases r with
    | none =>
      intro F' H' v kp ow rv
      obtain ⟨r1, r2, r3⟩ := common kp
      have zy : ω y = none := rs.free ny
      cases rv
      exact ⟨rfl, q ω H' (.ref y) r1 r2 (ow.rp r3 (hid_of zy))⟩
    | _ => exact q.elim
  | exc x fs d =>
    rw [hg] at q
    intro F' H' cls dd kp ow xr
    obtain ⟨r1, r2, r3⟩ := common kp
    exact q ω H' cls dd r1 r2 (xr.mono r3)
  | no => rw [hg] at q; exact q.elim
theorem v_make {g : Dt → List Dt → RsS} {m : SS → EO (List Dt)} {fs : List Str} (C : VC X k P w K mg base W) (T : ClsA K mg c fs) (G : Gi P w K mg base j c q st ps (spS K mg n g)) (hj : j + 1 ≤ k) (ha : VA X K mg W (e :: es) m) (hlen : ∀ ss ds ss', m ss = .ok ds ss' → ds.length + 1 = n)
    (hg : ∀ i, Gl (X i) c := by intro _; rfl) (hdb : (c == ("__debug__" : Str)) = false := by decide) (he : ∀ i, starEach (e :: es) (X i).env = (false, eval e (X i).env) :: starEach es (X i).env := by intro _; rfl) (hpl : ∀ i, (backTo pos (starEach es (X i).env)).any (·.1) = false := by intro _; rfl) :
    VE X K mg W (.Call (.Name c p) (e :: es) [] pos) (mMake c g m) := by
  obtain ⟨f, fd, F, M, hb, fn⟩ := G.ex
  obtain ⟨t, a1, a2⟩ := ha.ex
  refine ⟨_, fun i => pe_makeG (k := j) (fd := fd) (ps := ps) (f := f) (C := WW.cl c) (E := WE W) (sp := spS K mg n g) (by rw [C.eK i]; exact M) (by rw [C.eP i, C.ew i, C.eK i, C.em i, C.eb i]; exact fn) ((C.rm i).mono hj) (C.gd i) (hg i) (by rw [C.em i]; exact T.mgC) (by rw [C.eK i]; exact hb) (fun σ => passAt (C.tk i) σ) (a1 i) hdb (he i) (hpl i), fun ω ss σ H Q rs q => a2 ω ss σ H _ rs ?_⟩
  exact seqE q fun ds ss1 ω1 H1 vs em rs1 fr1 rp1 q1 y dx ny nd ne => make_go rs1 (by rw [rp1.length]; exact hlen _ _ _ em) rp1 ny nd ne q1
theorem v_make0 {g : Dt → List Dt → RsS} {fs : List Str} (C : VC X k P w K mg base W) (T : ClsA K mg c fs) (G : Gi P w K mg base j c q st ps (spS K mg 1 g)) (hj : j + 1 ≤ k)
    (hg : ∀ i, Gl (X i) c := by intro _; rfl) (hdb : (c == ("__debug__" : Str)) = false := by decide) : VE X K mg W (.Call (.Name c p) [] [] pos) (mMake c g mNil) := by
  obtain ⟨f, fd, F, M, hb, fn⟩ := G.ex
  refine ⟨_, fun i => pe_makeG0 (k := j) (fd := fd) (ps := ps) (f := f) (C := WW.cl c) (E := WE W) (sp := spS K mg 1 g) (by rw [C.eK i]; exact M) (by rw [C.eP i, C.ew i, C.eK i, C.em i, C.eb i]; exact fn) ((C.rm i).mono hj) (C.gd i) (hg i) (by rw [C.em i]; exact T.mgC) (by rw [C.eK i]; exact hb) (fun σ => passAt (C.tk i) σ) hdb, fun ω ss σ H Q rs q => ?_⟩
  exact fun y dx ny nd ne => make_go (vs := []) (ds := []) rs rfl .nil ny nd ne q
/-- o.m(e, ..) -/
def mMeth (c x : Str) (pm : Dt → List Dt → List Dt) (g : List Dt → Res Dt) (mo : SS → EO Dt) (m : SS → EO (List Dt)) : SS → EO Dt := fun ss => (mo ss).bind fun d ss1 => if isCM c x d = true then (m ss1).bind fun ds ss2 => match g (pm d ds) with
  | .ok d => .ok d ss2
  | .exc c fs => .exc c fs ss2
  | .no => .no
  else .no
theorem v_meth {pl : ι → Sem Bool} {g : List Dt → Res Dt} {mo : SS → EO Dt} {m : SS → EO (List Dt)} {fs : List Str} (C : VC X k P w K mg base W) (T : ClsA K mg c fs) (G : Gm P w K mg base j c x q st ps (spF K mg n g)) (hj : j ≤ k) (ho : VE X K mg W o mo) (ha : VA X K mg W (e :: es) m) (hlen : ∀ ss ds ss', m ss = .ok ds ss' → ds.length + 1 = n)
    (he : ∀ i, starEach (e :: es) (X i).env = (false, eval e (X i).env) :: starEach es (X i).env := by intro _; rfl) (hpl : ∀ i, (backTo pos (starEach es (X i).env)).any (·.1) = false := by intro _; rfl)
    (ht : ∀ i, eval (.Call (.Attribute o x apos) (e :: es) [] pos) (X i).env = (do
      let ov ← eval o (X i).env
      standAt apos.atName
      let (f, first) ← holding [ov] (getMethod ov x (pl i))
      callWith pos f first (backTo pos (starEach (e :: es) (X i).env)) (backToKw pos (keywordEach [] (X i).env))) := by intro _; rfl) :
    VE X K mg W (.Call (.Attribute o x apos) (e :: es) [] pos) (mMeth c x List.cons g mo m) := by
  obtain ⟨f, fd, F, M, hb, fn⟩ := G.ex
  obtain ⟨to, b1, b2⟩ := ho.ex
  obtain ⟨t, a1, a2⟩ := ha.ex
  refine ⟨tMethS (WW.cl c) x (spF K mg n g) (WE W) to t, fun i => pe_methG (k := j) (fd := fd) (ps := ps) (f := f) (C := WW.cl c) (E := WE W) (b1 i) (by rw [C.eK i]; exact T.cl) (by rw [C.eK i]; exact M) (by rw [C.eP i, C.ew i, C.eK i, C.em i, C.eb i]; exact fn) ((C.rm i).mono hj) (C.gd i) (by rw [C.eK i]; exact hb) (fun σ => passAt (C.tk i) σ) (a1 i) (he i) (hpl i) (ht i), fun ω ss σ H Q rs q => b2 ω ss σ H _ rs ?_⟩
  refine seqE q fun d ss1 ω1 H1 y _ rs1 fr1 rp1 q1 => ?_
  split at q1
  case isFalse => exact q1.elim
  rename_i hc
  obtain ⟨ns, ds0, rfl, hn⟩ := isCM_some hc
  obtain ⟨a, dx, gs, rfl, h1, rfl, h3⟩ := rp_ins rp1
  refine ⟨a, dx, gs, rfl, hid_le _ _ h1, look_no hn, a2 ω1 ss1 σ H1 _ rs1 ?_⟩
  exact seqE q1 fun ds ss2 ω2 H2 vs em rs2 fr2 rp2 q2 => res_go rs2 (by rw [List.length_cons, rp2.length]; exact hlen _ _ _ em) (.cons (Rp.mono fr2.fz _ _ rp1) rp2) q2
theorem v_meth0 {pl : ι → Sem Bool} {g : List Dt → Res Dt} {mo : SS → EO Dt} {fs : List Str} (C : VC X k P w K mg base W) (T : ClsA K mg c fs) (G : Gm P w K mg base j c x q st ps (spF K mg 1 g)) (hj : j ≤ k) (ho : VE X K mg W o mo)
    (ht : ∀ i, eval (.Call (.Attribute o x apos) [] [] pos) (X i).env = (do
      let ov ← eval o (X i).env
      standAt apos.atName
      let (f, first) ← holding [ov] (getMethod ov x (pl i))
      callWith pos f first (backTo pos (starEach [] (X i).env)) (backToKw pos (keywordEach [] (X i).env))) := by intro _; rfl) :
    VE X K mg W (.Call (.Attribute o x apos) [] [] pos) (mMeth c x List.cons g mo mNil) := by
  obtain ⟨f, fd, F, M, hb, fn⟩ := G.ex
  obtain ⟨to, b1, b2⟩ := ho.ex
  refine ⟨tMethS (WW.cl c) x (spF K mg 1 g) (WE W) to tNil, fun i => pe_methG0 (k := j) (fd := fd) (ps := ps) (f := f) (C := WW.cl c) (E := WE W) (b1 i) (by rw [C.eK i]; exact T.cl) (by rw [C.eK i]; exact M) (by rw [C.eP i, C.ew i, C.eK i, C.em i, C.eb i]; exact fn) ((C.rm i).mono hj) (C.gd i) (by rw [C.eK i]; exact hb) (fun σ => passAt (C.tk i) σ) (ht i), fun ω ss σ H Q rs q => b2 ω ss σ H _ rs ?_⟩
  refine seqE q fun d ss1 ω1 H1 y _ rs1 fr1 rp1 q1 => ?_
  split at q1
  case isFalse => exact q1.elim
  rename_i hc
  obtain ⟨ns, ds0, rfl, hn⟩ := isCM_some hc
  obtain ⟨a, dx, gs, rfl, h1, rfl, h3⟩ := rp_ins rp1
  refine ⟨a, dx, gs, rfl, hid_le _ _ h1, look_no hn, ?_⟩
  exact res_go (vs := [.ref a]) (ds := [_]) rs1 rfl (.one rp1) q1
/-- o.m(k = e, ..) -/
theorem v_methK {pl : ι → Sem Bool} {kws : List Keyword} {gg : List Value → List Value → List Value} {gV : List V → List V → List V} {pm : Dt → List Dt → List Dt} {g : List Dt → Res Dt} {mo : SS → EO Dt} {m : SS → EO (List Dt)} {fs : List Str} (C : VC X k P w K mg base W) (T : ClsA K mg c fs) (G : Gm P w K mg base j c x q st ps (spF K mg n g)) (hj : j ≤ k)
    (hb : ∀ f fd, Fun K x q st f fd → KBinds K fd ps ks gg gV) (hpm : ∀ F v d vs ds, Rp K F v d → RpA K F vs ds → ds.length = ks.length → (gV [v] vs).length = n ∧ RpA K F (gV [v] vs) (pm d ds)) (ho : VE X K mg W o mo) (ha : VK' X K mg W kws m) (hlen : ∀ ss ds ss', m ss = .ok ds ss' → ds.length = ks.length)
    (hall : ∀ i, (backToKw pos (keywordEach kws (X i).env)).all (·.1.isSome) = true := by intro _; rfl) (hks : ∀ i, (backToKw pos (keywordEach kws (X i).env)).filterMap (·.1) = ks := by intro _; rfl)
    (hpl : ∀ i, ((backTo pos (starEach [] (X i).env)).any (·.1) || (backToKw pos (keywordEach kws (X i).env)).any (·.1.isNone)) = false := by intro _; rfl)
    (ht : ∀ i, eval (.Call (.Attribute o x apos) [] kws pos) (X i).env = (do
      let ov ← eval o (X i).env
      standAt apos.atName
      let (f, first) ← holding [ov] (getMethod ov x (pl i))
      callWith pos f first (backTo pos (starEach [] (X i).env)) (backToKw pos (keywordEach kws (X i).env))) := by intro _; rfl) :
    VE X K mg W (.Call (.Attribute o x apos) [] kws pos) (mMeth c x pm g mo m) := by
  obtain ⟨f, fd, F, M, _, fn⟩ := G.ex
  obtain ⟨to, b1, b2⟩ := ho.ex
  obtain ⟨t, a1, a2⟩ := ha.ex
  refine ⟨_, fun i => pe_methGK (k := j) (fd := fd) (ps := ps) (f := f) (C := WW.cl c) (E := WE W) (sp := spF K mg n g) (b1 i) (by rw [C.eK i]; exact T.cl) (by rw [C.eK i]; exact M) (by rw [C.eP i, C.ew i, C.eK i, C.em i, C.eb i]; exact fn) ((C.rm i).mono hj) (C.gd i) (by rw [C.eK i]; exact hb f fd F) (fun σ => passAt (C.tk i) σ) (a1 i) (hall i) (hks i) (hpl i) (ht i), fun ω ss σ H Q rs q => b2 ω ss σ H _ rs ?_⟩
  refine seqE q fun d ss1 ω1 H1 y _ rs1 fr1 rp1 q1 => ?_
  split at q1
  case isFalse => exact q1.elim
  rename_i hc
  obtain ⟨ns, ds0, rfl, hn⟩ := isCM_some hc
  obtain ⟨a, dx, gs, rfl, h1, rfl, h3⟩ := rp_ins rp1
  refine ⟨a, dx, gs, rfl, hid_le _ _ h1, look_no hn, a2 ω1 ss1 σ H1 _ rs1 ?_⟩
  refine seqE q1 fun ds ss2 ω2 H2 vs em rs2 fr2 rp2 q2 => ?_
  obtain ⟨l1, r1⟩ := hpm _ _ _ _ _ (Rp.mono fr2.fz _ _ rp1) rp2 (hlen _ _ _ em)
  exact res_go rs2 l1 r1 q2
end
end VL

namespace VL
open PySem PySem.Spec L2
open PyProof.Rows hiding St
variable [WW]

def EX0 : St → XK := fun _ _ _ _ => False
theorem pass00 {Y : Cx} (σ : St) : PassesAt (L2.CX Y.prog Y.w) Y σ (EX0 σ) := fun pins H s e s' I x => by
  obtain ⟨_, _, _, _, _, _, _, _, _, _, _, _, _, _, _, _, h⟩ := x
section
variable {Y : Cx} {k : Nat} {f C : Addr} {fd : FuncData} {ps : List Str} {sp : Sp}
/-- x == y, both instances of C, by C's own __eq__ -/
def rEqI (C : Addr) (sp : Sp) : R2 := fun x y H Q => ∃ a b dx dy fs gs, x = .ref a ∧ y = .ref b ∧ H a = some (.ins C dx fs) ∧ H b = some (.ins C dy gs) ∧ sp [x, y] H (fun v H' => (∃ z, v = .bl z) ∧ Q v H') (fun _ _ _ => False)
theorem op_eqI (F : FnG Y.prog Y.w Y.K Y.mg Y.base k f fd ps sp) (hs : PySem.W.findIn Y.K (.ref C) "__eq__" = some (some (.ref f))) (hf : PySem.W.isFn Y.K (.ref f) = true) (hr : Room k Y.A) (hg : Y.A.guards = some []) (hb : Binds Y.K fd ps []) : OpR Y (compareOp .Eq) (rEqI C sp) := by
  intro pins s σ H x y u v Q I rx ry h
  obtain ⟨a, b, dx, dy, fs, gs, rfl, rfl, ha, hb', hsp⟩ := h
  cases rx
  cases ry
  obtain ⟨mA, J, _⟩ := ins_get I.hok ha
  obtain ⟨mB, J', _⟩ := ins_get I.hok hb'
  obtain ⟨od, J, _⟩ := J.look
  obtain ⟨od', J', _⟩ := J'.look
  obtain ⟨m, hF⟩ := I.fr
  show wpAny (model Y.prog Y.w) Y.A (richCompare .Eq (.ref a) (.ref b)) (EP Y pins σ Q) Y.xe s
  refine PySem.W.cmp_K (op := .Eq) (tb := .ref C) hr.units0 hF I.ok.mod.kin J J'.type (by simp [PySem.W.notFirst]) hs hf ?_
  have r2 : Vals [V.ref a, V.ref b] [Value.ref a, Value.ref b] := .cons rfl (.cons rfl .nil)
  have lv : ([Value.ref a, Value.ref b] ++ []).length = ps.length := by rw [List.append_nil, ← r2.length]; exact F.len _ _ _ _ hsp
  have b1 := hb s [.ref a, .ref b] I.kIn lv
  rw [List.append_nil] at b1
  refine wpAny_mono (run_gw (E := EX0) (us := [.ref a, .ref b]) F hr hg (pass00 σ) I b1 r2 hsp) (fun w s' hw => ?_) fun _ _ z => z
  obtain ⟨z, H', I', rz, ⟨zb, ez⟩, q⟩ := hw
  subst ez
  cases rz
  exact ⟨.bl zb, H', I', rfl, q⟩
/-- x op y, both instances of C, by C's own method -/
def rBinI (C : Addr) (sp : Sp) : R2 := fun x y H Q => ∃ a b dx dy fs gs, x = .ref a ∧ y = .ref b ∧ H a = some (.ins C dx fs) ∧ H b = some (.ins C dy gs) ∧ sp [x, y] H (fun v H' => (∃ a, v = .ref a) ∧ Q v H') (fun _ _ _ => False)
theorem op_binI {op : Operator} (F : FnG Y.prog Y.w Y.K Y.mg Y.base k f fd ps sp) (hc : PySem.W.selfFirst Y.K C = true) (hs : PySem.W.findIn Y.K (.ref C) (PySem.dunder op.info.2) = some (some (.ref f))) (hf : PySem.W.isFn Y.K (.ref f) = true) (hr : Room k Y.A) (hg : Y.A.guards = some []) (hb : Binds Y.K fd ps []) : OpR Y (binaryOp op) (rBinI C sp) := by
  intro pins s σ H x y u v Q I rx ry h
  obtain ⟨a, b, dx, dy, fs, gs, rfl, rfl, ha, hb', hsp⟩ := h
  cases rx
  cases ry
  obtain ⟨mA, J, _⟩ := ins_get I.hok ha
  obtain ⟨mB, J', _⟩ := ins_get I.hok hb'
  obtain ⟨od, J, _⟩ := J.look
  obtain ⟨od', J', _⟩ := J'.look
  obtain ⟨m, hF⟩ := I.fr
  refine PySem.W.binop_K hF I.ok.mod.kin J J'.type hc hs hf ?_
  have r2 : Vals [V.ref a, V.ref b] [Value.ref a, Value.ref b] := .cons rfl (.cons rfl .nil)
  have lv : ([Value.ref a, Value.ref b] ++ []).length = ps.length := by rw [List.append_nil, ← r2.length]; exact F.len _ _ _ _ hsp
  have b1 := hb s [.ref a, .ref b] I.kIn lv
  rw [List.append_nil] at b1
  refine wpAny_mono (run_gw (E := EX0) (us := [.ref a, .ref b]) F hr hg (pass00 σ) I b1 r2 hsp) (fun w s' hw => ?_) fun _ _ z => z
  obtain ⟨z, H', I', rz, ⟨za, ez⟩, q⟩ := hw
  subst ez
  cases rz
  exact ⟨.ref za, H', I', rfl, q⟩
end
section
variable {ι : Type} {X : ι → Cx} {k : Nat} {P : Program} {w : World} {K : PySem.W.Frag} {mg : Str → Option Value} {base : Heap} {W : WX} {e a b o : Expr} {es : List Expr} {pos p apos : Pos} {j n : Nat} {ps ks : List Str} {x c q : Str} {st : Stmt}
def mEqI (c : Str) (g : List Dt → Res Dt) (m n : SS → EO Dt) : SS → EO Dt := fun ss => (m ss).bind fun d ss1 => (n ss1).bind fun e ss2 => if isC c d = true ∧ isC c e = true then match g [d, e] with
  | .ok (.bool z) => .ok (.bool z) ss2
  | _ => .no
  else .no
/-- a == b by an own __eq__ -/
theorem eqI_go {g : List Dt → Res Dt} {m n : SS → EO Dt} (C : VC X k P w K mg base W) (G : Gm P w K mg base j c "__eq__" q st ps (spF K mg 2 g)) (hj : j ≤ k) (hm : VE X K mg W a m) (hn : VE X K mg W b n) : ∃ (r : R2) (t u : TE), (∀ i, OpR (X i) (compareOp .Eq) r) ∧ (∀ i, PE (X i) a t) ∧ (∀ i, PE (X i) b u) ∧ ∀ ω ss σ H Q, RS K ω ss σ H → EQg (RpE K) K mg W ω σ H (mEqI c g m n ss) Q → tOp r t u σ H Q := by
  obtain ⟨f, fd, F, M, hb, fn⟩ := G.ex
  obtain ⟨t, a1, a2⟩ := hm.ex
  obtain ⟨u, b1, b2⟩ := hn.ex
  refine ⟨rEqI (WW.cl c) (spF K mg 2 g), t, u, fun i => (op_eqI (k := j) (f := f) (fd := fd) (ps := ps) (by rw [C.eP i, C.ew i, C.eK i, C.em i, C.eb i]; exact fn) (by rw [C.eK i]; exact M.at_) (by rw [C.eK i]; exact M.fn) ((C.rm i).mono hj) (C.gd i) (by rw [C.eK i]; exact hb)), a1, b1, fun ω ss σ H Q rs q => a2 ω ss σ H _ rs ?_⟩
  refine seqE q fun d ss1 ω1 H1 y _ rs1 fr1 rp1 q1 => b2 ω1 ss1 σ H1 _ rs1 ?_
  refine seqE q1 fun d2 ss2 ω2 H2 y2 _ rs2 fr2 rp2 q2 => ?_
  split at q2
  case isFalse => exact q2.elim
  rename_i hc
  obtain ⟨ns, ds, rfl⟩ := isC_some hc.1
  obtain ⟨ns2, ds2, rfl⟩ := isC_some hc.2
  have rp1' := Rp.mono fr2.fz _ _ rp1
  obtain ⟨p1, dx, gs, e1, h1, _, _⟩ := rp_ins rp1'
  obtain ⟨p2, dy, gs2, e2, h2, _, _⟩ := rp_ins rp2
  refine ⟨p1, p2, dx, dy, gs, gs2, e1, e2, hid_le _ _ h1, hid_le _ _ h2, rfl, hid ω2 H2, _, hid_le, .cons rp1' (.one rp2), ?_⟩
  split at q2
  · rename_i z hz
    rw [hz]
    intro F' H' v kp rv
    obtain ⟨r1, r2, r3⟩ := rs2.behind kp
    cases rv
    exact ⟨⟨z, rfl⟩, q2 ω2 H' _ r1 r2 (.bl z)⟩
  · exact q2.elim
theorem v_eqI {g : List Dt → Res Dt} {m n : SS → EO Dt} (C : VC X k P w K mg base W) (G : Gm P w K mg base j c "__eq__" q st ps (spF K mg 2 g)) (hj : j ≤ k) (hm : VE X K mg W a m) (hn : VE X K mg W b n) (hk : behindInMarks .Eq b = false := by rfl) : VE X K mg W (.Compare a [.Eq] [b] pos) (mEqI c g m n) := by
  obtain ⟨r, t, u, a1, h1, g1, z⟩ := eqI_go C G hj hm hn
  exact ⟨_, fun i => pe_cmpR (a1 i) (h1 i) (g1 i) hk, z⟩
theorem tst_go {m : SS → EO Dt} {r : R2} {t u : TE} (z : ∀ ω ss σ H Q, RS K ω ss σ H → EQg (RpE K) K mg W ω σ H (m ss) Q → tOp r t u σ H Q) : ∀ ω ss σ H Q, RS K ω ss σ H → EQg EqB K mg W ω σ H (toB m ss) Q → tTest (tOp r t u) σ H Q := fun ω ss σ H Q rs q => z ω ss σ H _ rs (by
  refine seqE q fun d ss1 ω1 H1 x _ rs1 fr1 rp1 q1 => ?_
  cases rp1 with
  | bl z => exact ⟨z, rfl, q1 ω1 H1 z rs1 (.refl _ _) rfl⟩
  | _ => exact q1.elim)
theorem t_eqI {g : List Dt → Res Dt} {m n : SS → EO Dt} (C : VC X k P w K mg base W) (G : Gm P w K mg base j c "__eq__" q st ps (spF K mg 2 g)) (hj : j ≤ k) (hm : VE X K mg W a m) (hn : VE X K mg W b n) (hk : behindInMarks .Eq b = false := by rfl) : VT X K mg W (.Compare a [.Eq] [b] pos) (toB (mEqI c g m n)) := by
  obtain ⟨r, t, u, a1, h1, g1, z⟩ := eqI_go C G hj hm hn
  exact ⟨_, fun i => pt_cmpR (a1 i) (h1 i) (g1 i) hk, tst_go z⟩
def mBinI (c : Str) (g : List Dt → Res Dt) (m n : SS → EO Dt) : SS → EO Dt := fun ss => (m ss).bind fun d ss1 => (n ss1).bind fun e ss2 => if isC c d = true ∧ isC c e = true then match g [d, e] with
  | .ok r => if isC c r = true then .ok r ss2 else .no
  | _ => .no
  else .no
/-- a op b by an own method -/
theorem v_binI {op : Operator} {g : List Dt → Res Dt} {m n : SS → EO Dt} (C : VC X k P w K mg base W) (G : Gm P w K mg base j c (PySem.dunder op.info.2) q st ps (spF K mg 2 g)) (hsf : PySem.W.selfFirst K (WW.cl c) = true) (hj : j ≤ k) (hm : VE X K mg W a m) (hn : VE X K mg W b n) : VE X K mg W (.BinOp a op b pos) (mBinI c g m n) := by
  obtain ⟨f, fd, F, M, hb, fn⟩ := G.ex
  obtain ⟨t, a1, a2⟩ := hm.ex
  obtain ⟨u, b1, b2⟩ := hn.ex
  refine ⟨tOp (rBinI (WW.cl c) (spF K mg 2 g)) t u, fun i => pe_op (op_binI (k := j) (f := f) (fd := fd) (ps := ps) (by rw [C.eP i, C.ew i, C.eK i, C.em i, C.eb i]; exact fn) (by rw [C.eK i]; exact hsf) (by rw [C.eK i]; exact M.at_) (by rw [C.eK i]; exact M.fn) ((C.rm i).mono hj) (C.gd i) (by rw [C.eK i]; exact hb)) (a1 i) (b1 i), fun ω ss σ H Q rs q => a2 ω ss σ H _ rs ?_⟩
  refine seqE q fun d ss1 ω1 H1 y _ rs1 fr1 rp1 q1 => b2 ω1 ss1 σ H1 _ rs1 ?_
  refine seqE q1 fun d2 ss2 ω2 H2 y2 _ rs2 fr2 rp2 q2 => ?_
  split at q2
  case isFalse => exact q2.elim
  rename_i hc
  obtain ⟨ns, ds, rfl⟩ := isC_some hc.1
  obtain ⟨ns2, ds2, rfl⟩ := isC_some hc.2
  have rp1' := Rp.mono fr2.fz _ _ rp1
  obtain ⟨p1, dx, gs, e1, h1, _, _⟩ := rp_ins rp1'
  obtain ⟨p2, dy, gs2, e2, h2, _, _⟩ := rp_ins rp2
  refine ⟨p1, p2, dx, dy, gs, gs2, e1, e2, hid_le _ _ h1, hid_le _ _ h2, rfl, hid ω2 H2, _, hid_le, .cons rp1' (.one rp2), ?_⟩
  split at q2
  · rename_i z hz
    split at q2
    case isFalse => exact q2.elim
    rename_i hcz
    obtain ⟨ns3, ds3, rfl⟩ := isC_some hcz
    rw [hz]
    intro F' H' v kp rv
    obtain ⟨r1, r2, r3⟩ := rs2.behind kp
    obtain ⟨p3, _, _, e3, _⟩ := rp_ins rv
    exact ⟨⟨p3, e3⟩, q2 ω2 H' _ r1 r2 (Rp.mono r3 _ _ rv)⟩
  · exact q2.elim
/-- isinstance(e, C) -/
structure IsF (K : PySem.W.Frag) (c : Str) : Prop where
  ha : PySem.W.findIn K (.ref (WW.cl c)) "__class__" = some (some (.builtin "object.__class__"))
  hn : PySem.W.specialIn K (.builtin "object.__class__") "__get__" = some (some (.builtin "getset_descriptor.__get__"))
  ht : PySem.W.takesIn K (.builtin "object.__class__") = some true
  hm : PySem.W.mroIn K (WW.cl c) (.type "object") = some true
  nT : ∀ T ∈ ["NoneType", "bool", "int", "str", "list", "tuple", "dict"], PySem.W.kitOne K (.type T) (.ref (WW.cl c)) = some false
def fIsO (c : Str) (d : Dt) : Option Bool := if isC c d = true then some true else if plain1 d = true then some false else none
def mIsO (c : Str) (m : SS → EO Opd) : SS → EO Dt := fun ss => (m ss).bind fun o ss => .lift (((o.get ss).bind (fIsO c)).map .bool) ss
theorem ty_name (d : Dt) : tyName d ∈ ["NoneType", "bool", "int", "str", "list", "tuple", "dict"] := by cases d <;> simp [tyName]
theorem v_isO (C : VC X k P w K mg base W) {p1 p2 : Pos} {m : SS → EO Opd} {fs : List Str} (T : ClsA K mg c fs) (S : IsF K c) (h : VB X K mg W a m) (hm : mg "isinstance" = none) (hg : ∀ i, Gl (X i) "isinstance" := by intro _; rfl) (hgT : ∀ i, Gl (X i) c := by intro _; rfl) (hdb : (c == ("__debug__" : Str)) = false := by decide)
    (he : ∀ i, starEach [a, .Name c p2] (X i).env = (false, eval a (X i).env) :: starEach [.Name c p2] (X i).env := by intro _; rfl) (he2 : ∀ i, starEach [.Name c p2] (X i).env = (false, eval (.Name c p2) (X i).env) :: starEach [] (X i).env := by intro _; rfl) (hpl : ∀ i, (backTo pos (starEach [.Name c p2] (X i).env)).any (·.1) = false := by intro _; rfl) :
    VE X K mg W (.Call (.Name "isinstance" p1) [a, .Name c p2] [] pos) (mIsO c m) := by
  obtain ⟨t, a1, a2⟩ := h.ex
  refine ⟨tCB (rIsi K) (tCons t (tCons (tC (.ref (WW.cl c))) tNil)), fun i => ?_, fun ω ss σ H Q rs q => a2 ω ss σ H _ rs ?_⟩
  · rw [← C.eK i]
    exact pe_callB call_isi (hg i) (by rw [C.em i]; exact hm) PyProof.Rows.boot_isinstance (pa_cons (a1 i) (pa_cons (pe_glob (hgT i) (by rw [C.em i]; exact T.mgC) rfl hdb) pa_nil (he2 i)) (he i)) (by decide) (by decide) (he i) (hpl i)
  · refine seqE q fun o ss1 ω1 H1 y _ rs1 fr1 rp1 q1 => ?_
    obtain ⟨z, hz, q1⟩ := lift_get q1
    obtain ⟨z', hz2, rfl⟩ := Option.map_eq_some_iff.mp hz
    obtain ⟨d, h1, h2⟩ := Option.bind_eq_some_iff.mp hz2
    have bo := Opd.bor rs1 rp1 h1
    unfold fIsO at h2
    split at h2
    · rename_i hc
      cases h2
      obtain ⟨ns, ds, rfl⟩ := isC_some hc
      obtain ⟨p', dx, gs, rfl, g1, _, _⟩ := bor_ins bo
      exact ⟨_, _, _, _, true, rfl, .own _, .base (.ins g1 T.cl S.ha S.hn S.ht S.hm), by unfold PySem.W.kitOne; rw [if_pos (by simp)], q1 ω1 H1 _ rs1 (.refl _ _) (.bl _)⟩
    · split at h2
      · rename_i hp
        cases h2
        exact ⟨_, _, _, _, false, rfl, .own _, tyx_of bo.rp hp, S.nT _ (ty_name d), q1 ω1 H1 _ rs1 (.refl _ _) (.bl _)⟩
      · cases h2
end
end VL

namespace VL
open PySem PySem.Spec L2
open PyProof.Rows hiding St
variable [WW]

mutual
def beqD : Dt → Dt → Bool
  | .none, .none => true
  | .bool a, .bool b => decide (a = b)
  | .int a, .int b => decide (a = b)
  | .str a, .str b => decide (a = b)
  | .list a, .list b => beqA a b
  | .tuple a, .tuple b => beqA a b
  | .dict a, .dict b => beqK a b
  | _, _ => false
def beqA : List Dt → List Dt → Bool
  | [], [] => true
  | a :: as, b :: bs => beqD a b && beqA as bs
  | _, _ => false
def beqK : List (Dt × Dt) → List (Dt × Dt) → Bool
  | [], [] => true
  | (a, c) :: as, (b, d) :: bs => beqD a b && beqD c d && beqK as bs
  | _, _ => false
end
mutual
theorem beqD_self : ∀ a : Dt, beqD a a = true
  | .none => rfl
  | .bool a => by simp [beqD]
  | .int a => by simp [beqD]
  | .str a => by simp [beqD]
  | .list a => by rw [beqD]; exact beqA_self a
  | .tuple a => by rw [beqD]; exact beqA_self a
  | .dict a => by rw [beqD]; exact beqK_self a
theorem beqA_self : ∀ a : List Dt, beqA a a = true
  | [] => rfl
  | a :: as => by rw [beqA, beqD_self a, beqA_self as]; rfl
theorem beqK_self : ∀ a : List (Dt × Dt), beqK a a = true
  | [] => rfl
  | (a, c) :: as => by rw [beqK, beqD_self a, beqD_self c, beqK_self as]; rfl
end
mutual
theorem eq_of_beqD : ∀ a b : Dt, beqD a b = true → a = b
  | .none, b, h => by cases b <;> simp [beqD] at h ⊢
  | .bool a, b, h => by cases b <;> simp [beqD] at h ⊢; exact h
  | .int a, b, h => by cases b <;> simp [beqD] at h ⊢; exact h
  | .str a, b, h => by cases b <;> simp [beqD] at h ⊢; exact h
  | .list a, b, h => by
    cases b with
    | list b => rw [beqD] at h; rw [eq_of_beqA a b h]
    | _ => simp [beqD] at h
  | .tuple a, b, h => by
    cases b with
    | tuple b => rw [beqD] at h; rw [eq_of_beqA a b h]
    | _ => simp [beqD] at h
  | .dict a, b, h => by
    cases b with
    | dict b => rw [beqD] at h; rw [eq_of_beqK a b h]
    | _ => simp [beqD] at h
theorem eq_of_beqA : ∀ a b : List Dt, beqA a b = true → a = b
  | [], [], _ => rfl
  | [], _ :: _, h => by simp [beqA] at h
  | _ :: _, [], h => by simp [beqA] at h
  | a :: as, b :: bs, h => by
    rw [beqA, Bool.and_eq_true] at h
    rw [eq_of_beqD a b h.1, eq_of_beqA as bs h.2]
theorem eq_of_beqK : ∀ a b : List (Dt × Dt), beqK a b = true → a = b
  | [], [], _ => rfl
  | [], _ :: _, h => by simp [beqK] at h
  | _ :: _, [], h => by simp [beqK] at h
  | (a, c) :: as, (b, d) :: bs, h => by
    rw [beqK, Bool.and_eq_true, Bool.and_eq_true] at h
    rw [eq_of_beqD a b h.1.1, eq_of_beqD c d h.1.2, eq_of_beqK as bs h.2]
end
instance : DecidableEq Dt := fun a b => if h : beqD a b = true then isTrue (eq_of_beqD a b h) else isFalse fun e => h (e ▸ beqD_self a)

def lookD (ds : List (Dt × Dt)) (k : Dt) : Option Dt := (ds.find? fun p => decide (p.1 = k)).map (·.2)
def putD (ds : List (Dt × Dt)) (k v : Dt) : List (Dt × Dt) := if (ds.any fun p => decide (p.1 = k)) = true then ds.map (fun p => if p.1 = k then (p.1, v) else p) else ds ++ [(k, v)]
theorem lookD_nil {k : Dt} : lookD [] k = none := rfl
theorem lookD_cons {p : Dt × Dt} {ds : List (Dt × Dt)} {k : Dt} : lookD (p :: ds) k = if p.1 = k then some p.2 else lookD ds k := by
  unfold lookD
  by_cases h : p.1 = k <;> simp [List.find?_cons, h]
theorem keyD_inj {j k : Key} (h : keyD j = keyD k) : j = k := by
  cases j <;> cases k <;> simp [keyD] at h <;> rw [h]
section
variable {K : PySem.W.Frag} {H : Hp}
theorem rpk_look {k : Key} : ∀ {ds : List (Dt × Dt)} {kvs : List (Key × V)}, RpK K H kvs ds → match lookD ds (keyD k) with
    | some d => ∃ v, valV kvs k = some v ∧ Rp K H v d
    | none => valV kvs k = none
  | [], _, h => by cases h; exact rfl
  | (_, d) :: ds, _, h => by
    cases h with
    | @cons j x kvs _ _ h1 h2 =>
      rw [lookD_cons]
      by_cases e : j = k
      · subst e
        rw [if_pos rfl]
        exact ⟨x, valV_pos rfl, h1⟩
      · rw [if_neg (fun z => e (keyD_inj z))]
        have ih := rpk_look (k := k) h2
        have ev : valV ((j, x) :: kvs) k = valV kvs k := valV_neg e
        rw [ev]
        exact ih
theorem rpk_any {k : Key} : ∀ {ds : List (Dt × Dt)} {kvs : List (Key × V)}, RpK K H kvs ds → (kvs.any fun p => decide (p.1 = k)) = ds.any fun p => decide (p.1 = keyD k)
  | [], _, h => by cases h; rfl
  | (_, d) :: ds, _, h => by
    cases h with
    | @cons j x kvs _ _ h1 h2 =>
      rw [List.any_cons, List.any_cons, rpk_any h2]
      congr 1
      rw [decide_eq_decide]
      exact ⟨fun e => congrArg keyD (show j = k from e), keyD_inj⟩
theorem rpk_map {k : Key} {x : V} {d : Dt} (hx : Rp K H x d) : ∀ {ds : List (Dt × Dt)} {kvs : List (Key × V)}, RpK K H kvs ds → RpK K H (kvs.map fun p => if p.1 = k then (p.1, x) else p) (ds.map fun p => if p.1 = keyD k then (p.1, d) else p)
  | [], _, h => by cases h; exact .nil
  | (_, d') :: ds, _, h => by
    cases h with
    | @cons j y kvs _ _ h1 h2 =>
      rw [List.map_cons, List.map_cons]
      by_cases e : j = k
      · subst e
        rw [if_pos rfl, if_pos rfl]
        exact .cons hx (rpk_map hx h2)
      · rw [if_neg e, if_neg (fun z => e (keyD_inj z))]
        exact .cons h1 (rpk_map hx h2)
theorem rpk_snoc {k : Key} {x : V} {d : Dt} (hx : Rp K H x d) : ∀ {ds : List (Dt × Dt)} {kvs : List (Key × V)}, RpK K H kvs ds → RpK K H (kvs ++ [(k, x)]) (ds ++ [(keyD k, d)])
  | [], _, h => by cases h; exact .cons hx .nil
  | (_, d') :: ds, _, h => by
    cases h with
    | cons h1 h2 => exact .cons h1 (rpk_snoc hx h2)
theorem rpk_put {k : Key} {x : V} {d : Dt} {ds : List (Dt × Dt)} {kvs : List (Key × V)} (h : RpK K H kvs ds) (hx : Rp K H x d) : RpK K H (putK kvs k x) (putD ds (keyD k) d) := by
  unfold putK putD
  rw [rpk_any h]
  split
  · exact rpk_map hx h
  · exact rpk_snoc hx h
end
mutual
def toNK : Dt → Option NestedKey
  | .none => some .none
  | .int i => some (.num i)
  | .str s => some (.text s)
  | .tuple ds => (toNKs ds).map .tup
  | .bool _ => none
  | .list _ => none
  | .dict _ => none
def toNKs : List Dt → Option (List NestedKey)
  | [] => some []
  | d :: ds => match toNK d, toNKs ds with
    | some k, some ks => some (k :: ks)
    | _, _ => none
end
mutual
theorem toNK_data : ∀ (d : Dt) (k : NestedKey), toNK d = some k → d = k.data
  | .none, k, h => by simp [toNK] at h; subst h; rfl
  | .int i, k, h => by simp [toNK] at h; subst h; rfl
  | .str s, k, h => by simp [toNK] at h; subst h; rfl
  | .tuple ds, k, h => by
    rw [toNK] at h
    obtain ⟨ks, h1, rfl⟩ := Option.map_eq_some_iff.mp h
    rw [NestedKey.data, ← toNKs_data ds ks h1]
  | .bool _, k, h => by simp [toNK] at h
  | .list _, k, h => by simp [toNK] at h
  | .dict _, k, h => by simp [toNK] at h
theorem toNKs_data : ∀ (ds : List Dt) (ks : List NestedKey), toNKs ds = some ks → ds = NestedKey.datas ks
  | [], ks, h => by simp [toNKs] at h; subst h; rfl
  | d :: ds, ks, h => by
    rw [toNKs] at h
    split at h
    · rename_i k ks' h1 h2
      cases h
      rw [NestedKey.datas, ← toNK_data d k h1, ← toNKs_data ds ks' h2]
    · cases h
end
mutual
theorem data_toNK : ∀ k : NestedKey, toNK k.data = some k
  | .none => rfl
  | .num i => rfl
  | .text s => rfl
  | .tup ks => by rw [NestedKey.data, toNK, datas_toNK ks]; rfl
theorem datas_toNK : ∀ ks : List NestedKey, toNKs (NestedKey.datas ks) = some ks
  | [] => rfl
  | k :: ks => by rw [NestedKey.datas, toNKs, data_toNK k, datas_toNK ks]
end
theorem data_inj {j k : NestedKey} (h : j.data = k.data) : j = k := by
  have := data_toNK j
  rw [h, data_toNK k] at this
  exact (Option.some.inj this).symm
theorem datas_inj {j k : List NestedKey} (h : NestedKey.datas j = NestedKey.datas k) : j = k := by
  have := datas_toNK j
  rw [h, datas_toNK k] at this
  exact (Option.some.inj this).symm
section
variable {X : Cx} {pins : List (Addr × Obj)} {σ : St} {H : Hp} {s : Shared}
mutual
/-- data that is a key stands in the heap as a key -/
theorem nested_is (I : Inv X pins σ H s) : ∀ (k : NestedKey) (x : V) (u : Value), Rp X.K H x k.data → RelV x u → NestedIs s.heap k u
  | .none, x, u, h, r => by
    rw [NestedKey.data] at h
    cases h
    cases r
    exact .none
  | .num i, x, u, h, r => by
    rw [NestedKey.data] at h
    cases h
    obtain ⟨t, rfl⟩ := r
    exact .int i t
  | .text z, x, u, h, r => by
    rw [NestedKey.data] at h
    cases h
    obtain ⟨t, rfl⟩ := r
    exact .text z t
  | .tup ks, x, u, h, r => by
    rw [NestedKey.data] at h
    cases h with
    | tup hl ha =>
      cases r
      obtain ⟨its, rv, ⟨o, e1, e2, n, e3⟩, _⟩ := I.tuple hl
      exact .tup e1 e2 e3 (by simpa using nested_all I ks _ its ha rv)
theorem nested_all (I : Inv X pins σ H s) : ∀ (ks : List NestedKey) (xs : List V) (us : List Value), RpA X.K H xs (NestedKey.datas ks) → Vals xs us → NestedAll s.heap ks us
  | [], xs, us, h, r => by
    rw [NestedKey.datas] at h
    cases h
    cases r
    exact .nil
  | k :: ks, xs, us, h, r => by
    rw [NestedKey.datas] at h
    cases h with
    | cons h1 h2 =>
      cases r with
      | cons r1 r2 => exact .cons (nested_is I k _ _ h1 r1) (nested_all I ks _ _ h2 r2)
end
end
/-- an entry's key, where it stands, and its value -/
abbrev NE := NestedKey × Addr × V
def atN (xs : List NE) (k : NestedKey) : Option V := (xs.find? fun p => decide (p.1 = k)).map (·.2.2)
def putNE (xs : List NE) (k : NestedKey) (b : Addr) (v : V) : List NE := if (xs.any fun p => decide (p.1 = k)) = true then xs.map (fun p => if p.1 = k then (p.1, p.2.1, v) else p) else xs ++ [(k, b, v)]
abbrev NV3 : List NE → List (NestedKey × Addr × Value) → Prop := Paired fun p q => p.1 = q.1 ∧ p.2.1 = q.2.1 ∧ RelV p.2.2 q.2.2
theorem nv_find {k : NestedKey} : ∀ {xs : List NE} {ys : List (NestedKey × Addr × Value)}, NV3 xs ys → RelO (atN xs k) ((atKey ys k).map (·.2))
  | [], _, h => by cases h; exact True.intro
  | p :: xs, _, h => by
    cases h with
    | @cons _ q _ ys h1 h2 =>
      obtain ⟨e1, e2, e3⟩ := h1
      unfold atN atKey
      rw [List.find?_cons, List.find?_cons, ← e1]
      by_cases e : p.1 = k
      · rw [decide_eq_true e]
        exact e3
      · rw [decide_eq_false e]
        exact nv_find h2
theorem nv_any {k : NestedKey} : ∀ {xs : List NE} {ys : List (NestedKey × Addr × Value)}, NV3 xs ys → (atKey ys k).isSome = xs.any fun p => decide (p.1 = k)
  | [], _, h => by cases h; rfl
  | p :: xs, _, h => by
    cases h with
    | @cons _ q _ ys h1 h2 =>
      obtain ⟨e1, e2, e3⟩ := h1
      have ih := nv_any (k := k) h2
      unfold atKey at ih ⊢
      rw [List.find?_cons, List.any_cons, ← e1]
      by_cases e : p.1 = k
      · rw [decide_eq_true e]; rfl
      · rw [decide_eq_false e, Bool.false_or, ← ih]
theorem nv_map {k : NestedKey} {v : V} {u : Value} (r : RelV v u) : ∀ {xs : List NE} {ys : List (NestedKey × Addr × Value)}, NV3 xs ys → NV3 (xs.map fun p => if p.1 = k then (p.1, p.2.1, v) else p) (ys.map (putAt k u))
  | [], _, h => by cases h; exact .nil
  | p :: xs, _, h => by
    cases h with
    | @cons _ q _ ys h1 h2 =>
      rw [List.map_cons, List.map_cons]
      obtain ⟨e1, e2, e3⟩ := h1
      refine .cons ?_ (nv_map r h2)
      unfold putAt
      rw [← e1]
      by_cases e : p.1 = k
      · rw [if_pos e, if_pos e]
        exact ⟨rfl, e2, r⟩
      · rw [if_neg e, if_neg e]
        exact ⟨e1, e2, e3⟩
theorem nv_snoc {k : NestedKey} {b : Addr} {v : V} {u : Value} (r : RelV v u) : ∀ {xs : List NE} {ys : List (NestedKey × Addr × Value)}, NV3 xs ys → NV3 (xs ++ [(k, b, v)]) (ys ++ [(k, b, u)])
  | [], _, h => by cases h; exact .cons ⟨rfl, rfl, r⟩ .nil
  | p :: xs, _, h => by
    cases h with
    | cons h1 h2 => exact .cons h1 (nv_snoc r h2)
theorem nv_put {k : NestedKey} {b : Addr} {v : V} {u : Value} (r : RelV v u) {xs : List NE} {ys : List (NestedKey × Addr × Value)} (h : NV3 xs ys) : NV3 (putNE xs k b v) (storedH ys k b u) := by
  unfold putNE storedH
  rw [nv_any h]
  split
  · exact nv_map r h
  · exact nv_snoc r h
section
variable {K : PySem.W.Frag} {H : Hp}
theorem rpn_look {ks : List NestedKey} : ∀ {ds : List (Dt × Dt)} {xs : List NE}, RpN K H xs ds → match lookD ds (.tuple (NestedKey.datas ks)) with
    | some d => ∃ v, atN xs (.tup ks) = some v ∧ Rp K H v d
    | none => atN xs (.tup ks) = none
  | [], _, h => by cases h; exact rfl
  | (_, d) :: ds, _, h => by
    cases h with
    | @cons js b x xs _ _ hd h0 h1 h2 =>
      rw [lookD_cons]
      have ih := rpn_look (ks := ks) h2
      by_cases e : js = ks
      · subst e
        rw [if_pos rfl]
        exact ⟨x, by unfold atN; simp, h1⟩
      · rw [if_neg (fun z => e (datas_inj (by injection z)))]
        have ev : atN ((NestedKey.tup js, b, x) :: xs) (.tup ks) = atN xs (.tup ks) := by
          unfold atN
          rw [List.find?_cons, decide_eq_false (fun z => e (by injection z))]
        rw [ev]
        exact ih
theorem rpn_any {ks : List NestedKey} : ∀ {ds : List (Dt × Dt)} {xs : List NE}, RpN K H xs ds → (xs.any fun p => decide (p.1 = .tup ks)) = ds.any fun p => decide (p.1 = .tuple (NestedKey.datas ks))
  | [], _, h => by cases h; rfl
  | (_, d) :: ds, _, h => by
    cases h with
    | @cons js b x xs _ _ hd h0 h1 h2 =>
      rw [List.any_cons, List.any_cons, rpn_any h2]
      congr 1
      rw [decide_eq_decide]
      exact ⟨fun e => by injection e with e; rw [e], fun z => by injection z with z; rw [datas_inj z]⟩
theorem rpn_map {ks : List NestedKey} {x : V} {d : Dt} (hx : Rp K H x d) : ∀ {ds : List (Dt × Dt)} {xs : List NE}, RpN K H xs ds → RpN K H (xs.map fun p => if p.1 = .tup ks then (p.1, p.2.1, x) else p) (ds.map fun p => if p.1 = .tuple (NestedKey.datas ks) then (p.1, d) else p)
  | [], _, h => by cases h; exact .nil
  | (_, d') :: ds, _, h => by
    cases h with
    | @cons js b y xs _ _ hd h0 h1 h2 =>
      rw [List.map_cons, List.map_cons]
      by_cases e : js = ks
      · subst e
        rw [if_pos rfl, if_pos rfl]
        exact .cons hd h0 hx (rpn_map hx h2)
      · rw [if_neg (fun z => e (by injection z)), if_neg (fun z => e (datas_inj (by injection z)))]
        exact .cons hd h0 h1 (rpn_map hx h2)
theorem rpn_snoc {ks : List NestedKey} {b : Addr} {x : V} {d : Dt} (hd : (NestedKey.tup ks).depth ≤ 8) (hb : Rp K H (.ref b) (.tuple (NestedKey.datas ks))) (hx : Rp K H x d) : ∀ {ds : List (Dt × Dt)} {xs : List NE}, RpN K H xs ds → RpN K H (xs ++ [(.tup ks, b, x)]) (ds ++ [(.tuple (NestedKey.datas ks), d)])
  | [], _, h => by cases h; exact .cons hd hb hx .nil
  | (_, d') :: ds, _, h => by
    cases h with
    | cons hd' h0 h1 h2 => exact .cons hd' h0 h1 (rpn_snoc hd hb hx h2)
theorem rpn_put {ks : List NestedKey} {b : Addr} {x : V} {d : Dt} {ds : List (Dt × Dt)} {xs : List NE} (hd : (NestedKey.tup ks).depth ≤ 8) (hb : Rp K H (.ref b) (.tuple (NestedKey.datas ks))) (h : RpN K H xs ds) (hx : Rp K H x d) : RpN K H (putNE xs (.tup ks) b x) (putD ds (.tuple (NestedKey.datas ks)) d) := by
  unfold putNE putD
  rw [rpn_any h]
  split
  · exact rpn_map hx h
  · exact rpn_snoc hd hb hx h
theorem putNE_ne {xs : List NE} {k : NestedKey} {b : Addr} {x : V} : putNE xs k b x ≠ [] := by
  unfold putNE
  split
  · rename_i h
    cases xs with
    | nil => simp at h
    | cons p xs => simp
  · simp
theorem putNE_len (xs : List NE) (k : NestedKey) (b : Addr) (x : V) : (putNE xs k b x).length ≤ xs.length + 1 := by
  unfold putNE
  split <;> simp
theorem RpN.length : ∀ {ds : List (Dt × Dt)} {xs : List NE}, RpN K H xs ds → xs.length = ds.length
  | [], _, h => by cases h; rfl
  | (_, d) :: ds, _, h => by
    cases h with
    | cons _ _ _ h2 => simp [RpN.length h2]
end
end VL

namespace VL
open PySem PySem.Spec L2
open PyProof.Rows hiding St
variable [WW]

def key1 : Dt → Bool
  | .int _ => true
  | .str _ => true
  | _ => false
def keyN (d : Dt) : Bool := match toNK d with
  | some (.tup ks) => decide ((NestedKey.tup ks).depth ≤ 8)
  | _ => false
/-- what a dict says of a key, where it can be asked -/
def fLook (ds : List (Dt × Dt)) (k : Dt) : Option (Option Dt) := if (key1 k && isK ds) = true then some (lookD ds k) else if (keyN k && (ds.isEmpty || isNK ds)) = true then some (lookD ds k) else none
section
variable {X : Cx} {pins : List (Addr × Obj)} {σ : St} {H : Hp} {s : Shared}
theorem keyN_some {k : Dt} (h : keyN k = true) : ∃ ks, k = .tuple (NestedKey.datas ks) ∧ (NestedKey.tup ks).depth ≤ 8 := by
  unfold keyN at h
  split at h
  · rename_i ks e
    exact ⟨ks, by rw [toNK_data k _ e, NestedKey.data], of_decide_eq_true h⟩
  · cases h
theorem key1_some {H : Hp} {x : V} {k : Dt} (hx : Rp X.K H x k) (h : key1 k = true) : ∃ j : Key, k = keyD j ∧ x = kV j := by
  cases k with
  | int i => cases hx; exact ⟨.inl i, rfl, rfl⟩
  | str z => cases hx; exact ⟨.inr z, rfl, rfl⟩
  | _ => cases h
theorem rpk_isNK {F : Hp} {kvs : List (Key × V)} {ds : List (Dt × Dt)} (h : RpK X.K F kvs ds) : isNK ds = false := by
  cases h with
  | nil => rfl
  | @cons k => cases k <;> rfl
/-- a dict, its values told of a part of the heap -/
def BorD (K : PySem.W.Frag) (F H : Hp) (y : V) (ds : List (Dt × Dt)) : Prop :=
  (∃ a kvs, y = .ref a ∧ H a = some (.dK kvs) ∧ RpK K F kvs ds) ∨ ∃ a xs, y = .ref a ∧ H a = some (dNo a xs) ∧ xs ≠ [] ∧ RpN K F xs ds
theorem bor_dict {K : PySem.W.Frag} {ω : Om} {y : V} {ds : List (Dt × Dt)} (h : Bor K ω H y (.dict ds)) (hk : isK ds = true ∨ isNK ds = true) : BorD K (hid ω H) H y ds := by
  rcases h with h | ⟨a, rfl, h⟩
  · cases h with
    | dK h1 h2 => exact .inl ⟨_, _, rfl, hid_le _ _ h1, h2⟩
    | dN h1 hn h2 => exact .inr ⟨_, _, rfl, hid_le _ _ h1, hn, h2⟩
    | ob h1 h2 => rcases hk with hk | hk <;> cases hk
  · rcases h with ⟨ds', xs, e, _⟩ | ⟨ds', xs, e, h2, h3⟩ | ⟨ds', xs, e, h2, hn, h3⟩ | ⟨c, dx, fs, ds', e, _⟩
    · cases e
    · cases e; exact .inl ⟨_, _, rfl, h2, h3⟩
    · cases e; exact .inr ⟨_, _, rfl, h2, hn, h3⟩
    · cases e; rcases hk with hk | hk <;> cases hk
theorem look_kind {ds : List (Dt × Dt)} {k : Dt} {o : Option Dt} (hf : fLook ds k = some o) : isK ds = true ∨ isNK ds = true := by
  unfold fLook at hf
  split at hf
  · rename_i h
    rw [Bool.and_eq_true] at h
    exact .inl h.2
  · split at hf
    · rename_i h
      rw [Bool.and_eq_true, Bool.or_eq_true] at h
      rcases h.2 with h | h
      · cases ds with
        | nil => exact .inl rfl
        | cons => cases h
      · exact .inr h
    · cases hf
/-- the three sorts of asking -/
theorem d_cases {F : Hp} {x y : V} {k : Dt} {ds : List (Dt × Dt)} {o : Option Dt} (hy : BorD X.K F H y ds) (hx : Rp X.K H x k) (hf : fLook ds k = some o) : o = lookD ds k ∧
    ((∃ a kvs j, y = .ref a ∧ H a = some (.dK kvs) ∧ RpK X.K F kvs ds ∧ k = keyD j ∧ x = kV j) ∨
     (∃ a xs ks b, y = .ref a ∧ H a = some (dNo a xs) ∧ xs ≠ [] ∧ RpN X.K F xs ds ∧ k = .tuple (NestedKey.datas ks) ∧ (NestedKey.tup ks).depth ≤ 8 ∧ x = .ref b) ∨
     (∃ a ks b, y = .ref a ∧ H a = some (.dK []) ∧ ds = [] ∧ k = .tuple (NestedKey.datas ks) ∧ (NestedKey.tup ks).depth ≤ 8 ∧ x = .ref b)) := by
  unfold fLook at hf
  split at hf
  · rename_i h
    rw [Bool.and_eq_true] at h
    cases hf
    obtain ⟨j, rfl, rfl⟩ := key1_some hx h.1
    rcases hy with ⟨a, kvs, rfl, h1, h2⟩ | ⟨a, xs, rfl, h1, hn, h2⟩
    · exact ⟨rfl, .inl ⟨a, kvs, j, rfl, h1, h2, rfl, rfl⟩⟩
    · rw [h2.isK hn] at h
      cases h.2
  · split at hf
    · rename_i h
      rw [Bool.and_eq_true, Bool.or_eq_true] at h
      cases hf
      obtain ⟨ks, rfl, hd⟩ := keyN_some h.1
      obtain ⟨b, rfl⟩ : ∃ b, x = .ref b := by cases hx; exact ⟨_, rfl⟩
      refine ⟨rfl, .inr ?_⟩
      rcases hy with ⟨a, kvs, rfl, h1, h2⟩ | ⟨a, xs, rfl, h1, hn, h2⟩
      · rcases h.2 with h' | h'
        · cases ds with
          | nil => cases h2; exact .inr ⟨a, ks, b, rfl, h1, rfl, rfl, hd, rfl⟩
          | cons => cases h'
        · rw [rpk_isNK h2] at h'
          cases h'
      · exact .inl ⟨a, xs, ks, b, rfl, h1, hn, h2, rfl, hd, rfl⟩
    · cases hf
theorem key_at (I : Inv X pins σ H s) {ks : List NestedKey} {b : Addr} (hd : (NestedKey.tup ks).depth ≤ 8) (h : Rp X.K H (.ref b) (.tuple (NestedKey.datas ks))) : (nestedKind X.prog X.w).is s.heap (.tup ks) b :=
  ⟨nested_is I (.tup ks) (.ref b) (.ref b) (by rw [NestedKey.data]; exact h) rfl, hd⟩
theorem keys_at (I : Inv X pins σ H s) : ∀ {ds : List (Dt × Dt)} {xs : List NE} {ys : List (NestedKey × Addr × Value)}, RpN X.K H xs ds → NV3 xs ys → ∀ y ∈ ys, (nestedKind X.prog X.w).is s.heap y.1 y.2.1
  | [], _, _, h, r, y, hy => by cases h; cases r; cases hy
  | (_, d) :: ds, _, _, h, r, y, hy => by
    cases h with
    | @cons ks b x xs _ _ hd h0 h1 h2 =>
      cases r with
      | @cons _ q _ ys r1 r2 =>
        obtain ⟨e1, e2, e3⟩ := r1
        rcases List.mem_cons.mp hy with rfl | hy
        · have k := key_at I hd h0
          have e1 : NestedKey.tup ks = y.1 := e1
          have e2 : b = y.2.1 := e2
          rw [← e1, ← e2]
          exact k
        · exact keys_at I h2 r2 y hy
theorem dn_of (I : Inv X pins σ H s) (hw : X.w = WW.w) {a : Addr} {xs : List NE} {ds : List (Dt × Dt)} (e : H a = some (dNo a xs)) (r : RpN X.K H xs ds) : xs.length ≤ sizeLine ∧ (a == sysModules) = false ∧ ∃ ys, NV3 xs ys ∧ s.heap.DictOfH (nestedKind X.prog X.w) a ys := by
  obtain ⟨⟨z, hd, ys, rel, o, es, ep, h1, h2, h3, h4, h5⟩, _, _⟩ := (show ObjOk X.prog X.w H s.heap a (dNo a xs) from I.hok a _ e)
  refine ⟨z, hd, ys, rel, o, es, ep, h1, h2, h3, ?_, keys_at I r rel, h5⟩
  rw [h4, ← hw]
  rfl
theorem de_of (I : Inv X pins σ H s) {a : Addr} (e : H a = some (.dK [])) : (a == sysModules) = false ∧ s.heap.DictOfH (nestedKind X.prog X.w) a [] := by
  obtain ⟨z, hd, vs, rel, o, es, ep, h1, h2, h3, h4, pr, _⟩ := dk_of I.hok e
  cases rel
  cases h4' : es.toList with
  | nil => exact ⟨hd, o, es, ep, h1, h2, h3, by rw [h4']; rfl, fun _ z => (nomatch z), List.nodup_nil⟩
  | cons q qs =>
    rw [h4'] at pr
    cases pr
theorem dn_new {P : Program} {w : World} {H' : Hp} {h' : Heap} {a : Addr} {xs : List NE} {ys : List (NestedKey × Addr × Value)} (hw : w = WW.w) (z : xs.length ≤ sizeLine) (hd : (a == sysModules) = false) (rel : NV3 xs ys) (dd : h'.DictOfH (nestedKind P w) a ys) : ObjOk P w H' h' a (dNo a xs) := by
  obtain ⟨o, es, ep, h1, h2, h3, h4, h5, h6⟩ := dd
  subst hw
  refine ⟨⟨z, hd, ys, rel, o, es, ep, h1, h2, h3, h4, h6⟩, ⟨o, h1⟩, ?_⟩
  rintro g1 g2 ⟨z, hd, ys, rel, o, es, ep, h1, h2, h3, h4, h6⟩ k
  exact ⟨z, hd, ys, rel, o, es, ep, k o h1, h2, h3, h4, h6⟩
variable {A : Around} {E : Value → Shared → Prop}
theorem x_in (hu : A.units + 16 < cLine) (I : Inv X pins σ H s) (hw : X.w = WW.w) {x y : V} {u v : Value} {k : Dt} {ds : List (Dt × Dt)} {o : Option Dt} {F : Hp} {Q : Value → Shared → Prop} (sF : Same F H) (hy : BorD X.K F H y ds) (hx : Rp X.K H x k) (hf : fLook ds k = some o) (rx : RelV x u) (ry : RelV y v) (h : ∀ s', Inv X pins σ H s' → Q (.bool o.isSome) s') :
    wpAny (model X.prog X.w) A (compareOp .In u v) Q E s := by
  obtain ⟨rfl, c⟩ := d_cases hy hx hf
  rcases c with ⟨a, kvs, j, rfl, h1, h2, rfl, rfl⟩ | ⟨a, xs, ks, b, rfl, h1, hn, h2, rfl, hd, rfl⟩ | ⟨a, ks, b, rfl, h1, rfl, rfl, hd, rfl⟩
  · cases ry
    have l := rpk_look (k := j) h2
    have e : (lookD ds (keyD j)).isSome = (valV kvs j).isSome := by
      split at l
      · rename_i d e0
        obtain ⟨v, e1, _⟩ := l
        rw [e0, e1]; rfl
      · rename_i e0
        rw [e0, l]; rfl
    rw [e] at h
    exact d_in (by omega) I (DGet.k (k := j) h1) rx h
  · cases ry
    cases rx
    obtain ⟨z, hs, ys, rel, dd⟩ := dn_of I hw h1 (RpN.mono sF _ _ h2)
    refine wpAny_in_heap (knd := nestedKind X.prog X.w) (k := .tup ks) (show A.in1.units + 8 < cLine by show A.units + 1 + 8 < cLine; omega) (key_at I hd hx) hs dd ?_
    have l := rpn_look (ks := ks) h2
    have q := (nv_find (k := .tup ks) rel).isSome_eq
    rw [Option.isSome_map] at q
    have e : (lookD ds (.tuple (NestedKey.datas ks))).isSome = (atN xs (.tup ks)).isSome := by
      split at l
      · rename_i d e0
        obtain ⟨v, e1, _⟩ := l
        rw [e0, e1]; rfl
      · rename_i e0
        rw [e0, l]; rfl
    rw [← q, ← e]
    exact h _ (I.tok _)
  · cases ry
    cases rx
    obtain ⟨hs, dd⟩ := de_of I h1
    refine wpAny_in_heap (knd := nestedKind X.prog X.w) (k := .tup ks) (show A.in1.units + 8 < cLine by show A.units + 1 + 8 < cLine; omega) (key_at I hd hx) hs dd ?_
    exact h _ (I.tok _)
theorem x_notIn (hu : A.units + 16 < cLine) (I : Inv X pins σ H s) (hw : X.w = WW.w) {x y : V} {u v : Value} {k : Dt} {ds : List (Dt × Dt)} {o : Option Dt} {F : Hp} {Q : Value → Shared → Prop} (sF : Same F H) (hy : BorD X.K F H y ds) (hx : Rp X.K H x k) (hf : fLook ds k = some o) (rx : RelV x u) (ry : RelV y v) (h : ∀ s', Inv X pins σ H s' → Q (.bool (!o.isSome)) s') :
    wpAny (model X.prog X.w) A (compareOp .NotIn u v) Q E s := by
  obtain ⟨rfl, c⟩ := d_cases hy hx hf
  rcases c with ⟨a, kvs, j, rfl, h1, h2, rfl, rfl⟩ | ⟨a, xs, ks, b, rfl, h1, hn, h2, rfl, hd, rfl⟩ | ⟨a, ks, b, rfl, h1, rfl, rfl, hd, rfl⟩
  · cases ry
    have l := rpk_look (k := j) h2
    have e : (lookD ds (keyD j)).isSome = (valV kvs j).isSome := by
      split at l
      · rename_i d e0
        obtain ⟨v, e1, _⟩ := l
        rw [e0, e1]; rfl
      · rename_i e0
        rw [e0, l]; rfl
    rw [e] at h
    exact d_notIn (by omega) I (DGet.k (k := j) h1) rx h
  · cases ry
    cases rx
    obtain ⟨z, hs, ys, rel, dd⟩ := dn_of I hw h1 (RpN.mono sF _ _ h2)
    refine wpAny_notIn_heap (knd := nestedKind X.prog X.w) (k := .tup ks) (show A.in1.units + 8 < cLine by show A.units + 1 + 8 < cLine; omega) (key_at I hd hx) hs dd ?_
    have l := rpn_look (ks := ks) h2
    have q := (nv_find (k := .tup ks) rel).isSome_eq
    rw [Option.isSome_map] at q
    have e : (lookD ds (.tuple (NestedKey.datas ks))).isSome = (atN xs (.tup ks)).isSome := by
      split at l
      · rename_i d e0
        obtain ⟨v, e1, _⟩ := l
        rw [e0, e1]; rfl
      · rename_i e0
        rw [e0, l]; rfl
    rw [← q, ← e]
    exact h _ (I.tok _)
  · cases ry
    cases rx
    obtain ⟨hs, dd⟩ := de_of I h1
    refine wpAny_notIn_heap (knd := nestedKind X.prog X.w) (k := .tup ks) (show A.in1.units + 8 < cLine by show A.units + 1 + 8 < cLine; omega) (key_at I hd hx) hs dd ?_
    exact h _ (I.tok _)
/-- d[k], there -/
theorem x_get (hu : A.units + 16 < cLine) (I : Inv X pins σ H s) (hw : X.w = WW.w) {x y : V} {u v : Value} {k d : Dt} {ds : List (Dt × Dt)} {F : Hp} {Q : Value → Shared → Prop} (sF : Same F H) (hy : BorD X.K F H y ds) (hx : Rp X.K H x k) (hf : fLook ds k = some (some d)) (rx : RelV x u) (ry : RelV y v)
    (h : ∀ z w' s', Rp X.K F z d → Inv X pins σ H s' → RelV z w' → Q w' s') : wpAny (model X.prog X.w) A (getItem v u) Q E s := by
  obtain ⟨ho, c⟩ := d_cases hy hx hf
  rcases c with ⟨a, kvs, j, rfl, h1, h2, rfl, rfl⟩ | ⟨a, xs, ks, b, rfl, h1, hn, h2, rfl, hd, rfl⟩ | ⟨a, ks, b, rfl, h1, rfl, rfl, hd, rfl⟩
  · cases ry
    have l := rpk_look (k := j) h2
    rw [← ho] at l
    obtain ⟨z, e1, rz⟩ := l
    have g := DGet.k (k := j) h1
    rw [e1] at g
    exact d_getItem (by omega) I g rx fun w' s' I' r' => h z w' s' rz I' r'
  · cases ry
    cases rx
    obtain ⟨z, hs, ys, rel, dd⟩ := dn_of I hw h1 (RpN.mono sF _ _ h2)
    have l := rpn_look (ks := ks) h2
    rw [← ho] at l
    obtain ⟨z, e1, rz⟩ := l
    have q := nv_find (k := .tup ks) rel
    rw [e1] at q
    cases hp : atKey ys (.tup ks) with
    | none => rw [hp] at q; exact q.elim
    | some p =>
      rw [hp] at q
      refine wpAny_getItem_heap (knd := nestedKind X.prog X.w) (k := .tup ks) (show A.in1.units + 8 < cLine by show A.units + 1 + 8 < cLine; omega) (key_at I hd hx) dd hp ?_
      exact h z p.2 _ rz (I.tok _) q
  · cases ho
theorem x_isDict (I : Inv X pins σ H s) (hw : X.w = WW.w) {y : V} {v : Value} {ds : List (Dt × Dt)} {F : Hp} (sF : Same F H) (hy : BorD X.K F H y ds) (ry : RelV y v) : s.TypeIs v "dict" := by
  rcases hy with ⟨a, kvs, rfl, h1, h2⟩ | ⟨a, xs, rfl, h1, hn, h2⟩
  · cases ry
    obtain ⟨_, _, vs, _, dd⟩ := dk_of I.hok h1
    exact dd.typeIs
  · cases ry
    obtain ⟨_, _, ys, _, dd⟩ := dn_of I hw h1 (RpN.mono sF _ _ h2)
    exact dd.typeIs
/-- the heap behind d[k] = v, and what stands there -/
theorem x_put (hu : A.units + 16 < cLine) (I : Inv X pins σ H s) (hw : X.w = WW.w) {x z : V} {u r : Value} {a : Addr} {k d : Dt} {ds : List (Dt × Dt)} {o : Option Dt} {F : Hp} {Q : Unit → Shared → Prop} (sF : Same F H) (hy : BorD X.K F H (.ref a) ds) (hx : Rp X.K H x k) (hxF : Rp X.K F x k) (hz : Rp X.K F z d) (hf : fLook ds k = some o) (hl : ds.length < sizeLine) (rx : RelV x u) (rz : RelV z r)
    (h : ∀ ob s', Inv X pins σ (upd H a ob) s' → BorD X.K F (upd H a ob) (.ref a) (putD ds k d) → Q () s') : wpAny (model X.prog X.w) A (setItem (.ref a) u r) Q E s := by
  obtain ⟨rfl, c⟩ := d_cases hy hx hf
  rcases c with ⟨a', kvs, j, e, h1, h2, rfl, rfl⟩ | ⟨a', xs, ks, b, e, h1, hn, h2, rfl, hd, rfl⟩ | ⟨a', ks, b, e, h1, rfl, rfl, hd, rfl⟩
  · cases e
    have hl' : kvs.length < sizeLine := by
      have := RpK.length h2
      omega
    exact d_setItem (by omega) I (DPut.k (k := j) h1 hl') rx rz fun s' I' => h _ s' I' (.inl ⟨a, _, rfl, upd_same, rpk_put h2 hz⟩)
  · cases e
    cases rx
    obtain ⟨z0, hs, ys, rel, dd⟩ := dn_of I hw h1 (RpN.mono sF _ _ h2)
    have hlen : ys.length ≤ sizeLine := by rw [← Paired.length rel]; exact z0
    have hl' : (putNE xs (.tup ks) b z).length ≤ sizeLine := by
      have := putNE_len xs (.tup ks) b z
      have := RpN.length h2
      omega
    refine wpAny_setItem_heap (hsz := hlen) (knd := nestedKind X.prog X.w) (k := .tup ks) (show A.in1.units + 8 < cLine by show A.units + 1 + 8 < cLine; omega) (key_at I hd hx) dd fun h' dd' hsb => ?_
    have he : ∃ q, h'.get? a = some q := let ⟨q, _, _, hq, _⟩ := dd'; ⟨q, hq⟩
    refine h (dNo a (putNE xs (.tup ks) b z)) _ (d_write I (by rw [h1]; exact True.intro) hsb he (dn_new hw hl' hs (nv_put rz rel) dd')) (.inr ⟨a, _, rfl, upd_same, putNE_ne, rpn_put hd hxF h2 hz⟩)
  · cases e
    cases rx
    obtain ⟨hs, dd⟩ := de_of I h1
    refine wpAny_setItem_heap (hsz := Nat.zero_le _) (knd := nestedKind X.prog X.w) (k := .tup ks) (show A.in1.units + 8 < cLine by show A.units + 1 + 8 < cLine; omega) (key_at I hd hx) dd fun h' dd' hsb => ?_
    have he : ∃ q, h'.get? a = some q := let ⟨q, _, _, hq, _⟩ := dd'; ⟨q, hq⟩
    refine h (dNo a (putNE [] (.tup ks) b z)) _ (d_write I (by rw [h1]; exact True.intro) hsb he (dn_new hw (Nat.le_trans (putNE_len [] (.tup ks) b z) (by decide)) hs (nv_put rz .nil) dd')) (.inr ⟨a, _, rfl, upd_same, putNE_ne, rpn_put (ds := []) hd hxF .nil hz⟩)
end
end VL

namespace VL
open PySem PySem.Spec L2
open PyProof.Rows hiding St
variable [WW]
section
variable {ι : Type} {X : ι → Cx} {k : Nat} {P : Program} {w : World} {K : PySem.W.Frag} {mg : Str → Option Value} {base : Heap} {W : WX} {e a b o i v : Expr} {es : List Expr} {pos : Pos}
def fInX (neg : Bool) : Dt → Dt → Option Bool := fun k e => match e with
  | .dict ds => (fLook ds k).map fun o => if neg then !o.isSome else o.isSome
  | _ => none
theorem c_inX (C : VC X k P w K mg base W) : CmpS X K .In (fInX false) := by
  refine ⟨fun x y H Q => ∃ F k ds o, Same F H ∧ BorD K F H y ds ∧ Rp K H x k ∧ fLook ds k = some o ∧ Q (.bl o.isSome) H, fun i => ?_, fun ω H x y d e z Q bx by' hf q => ?_⟩
  · rintro pins s σ H x y u v Q I rx ry ⟨F, k', ds, o, sF, hy, hx, hl, q⟩
    rw [← C.eK i] at hy hx
    exact x_in (by have := (C.rm i).un; omega) I ((C.ew i).trans C.hw) sF hy hx hl rx ry fun s' I' => ⟨.bl o.isSome, H, I', rfl, q⟩
  · unfold fInX at hf
    split at hf
    · rename_i ds
      obtain ⟨o, h1, rfl⟩ := Option.map_eq_some_iff.mp hf
      exact ⟨_, d, ds, o, hid_le, bor_dict by' (look_kind h1), bx.rp, h1, q⟩
    · cases hf
theorem c_notInX (C : VC X k P w K mg base W) : CmpS X K .NotIn (fInX true) := by
  refine ⟨fun x y H Q => ∃ F k ds o, Same F H ∧ BorD K F H y ds ∧ Rp K H x k ∧ fLook ds k = some o ∧ Q (.bl (!o.isSome)) H, fun i => ?_, fun ω H x y d e z Q bx by' hf q => ?_⟩
  · rintro pins s σ H x y u v Q I rx ry ⟨F, k', ds, o, sF, hy, hx, hl, q⟩
    rw [← C.eK i] at hy hx
    exact x_notIn (by have := (C.rm i).un; omega) I ((C.ew i).trans C.hw) sF hy hx hl rx ry fun s' I' => ⟨.bl (!o.isSome), H, I', rfl, q⟩
  · unfold fInX at hf
    split at hf
    · rename_i ds
      obtain ⟨o, h1, rfl⟩ := Option.map_eq_some_iff.mp hf
      exact ⟨_, d, ds, o, hid_le, bor_dict by' (look_kind h1), bx.rp, h1, q⟩
    · cases hf
def fInA : Dt → Dt → Option Bool := alt fIn (fInX false)
def fNotInA : Dt → Dt → Option Bool := alt fNotIn (fInX true)
theorem c_inA (C : VC X k P w K mg base W) : CmpS X K .In fInA := (c_in C).or (c_inX C)
theorem c_notInA (C : VC X k P w K mg base W) : CmpS X K .NotIn fNotInA := (c_notIn C).or (c_notInX C)
/-- d[k] -/
def fDGet : Dt → Dt → Option Dt := fun d k => match d with
  | .dict ds => (fLook ds k).bind fun o => o
  | _ => none
theorem v_dget (C : VC X k P w K mg base W) {m n : SS → EO Opd} (hm : VB X K mg W o m) (hn : VB X K mg W i n) (hs : NoSl i := by intro _ _; rfl) : VE X K mg W (.Subscript o i pos) (mBin fDGet m n) := by
  obtain ⟨t, a1, a2⟩ := hm.ex
  obtain ⟨u, b1, b2⟩ := hn.ex
  refine ⟨fun σ H Q => t σ H fun y H1 => u σ H1 fun x H2 => ∃ F k ds d, Same F H2 ∧ BorD K F H2 y ds ∧ Rp K H2 x k ∧ fLook ds k = some (some d) ∧ ∀ z, Rp K F z d → Q z H2, fun j => ?_, fun ω ss σ H Q rs q => a2 ω ss σ H _ rs ?_⟩
  · refine ⟨fun pins s σ H Q I h => ?_⟩
    refine subD_of PySem.F.slot_dict_getitem.lookup hs (thn ((a1 j).run pins s σ H _ I h) fun v s1 ⟨y, H1, I1, ry, q1⟩ => thn ((b1 j).run pins s1 σ H1 _ I1 q1) fun iv s2 ⟨x, H2, I2, rx, F, k', ds, d, sF, hy, hx, hl, q2⟩ => ?_)
    rw [← C.eK j] at hy hx
    have hw := (C.ew j).trans C.hw
    exact ⟨x_isDict I2 hw sF hy ry, x_get (by have := (C.rm j).un; omega) I2 hw sF hy hx hl rx ry fun z w' s3 rz I3 rw' => ⟨z, H2, I3, rw', q2 z (by rw [← C.eK j]; exact rz)⟩⟩
  · refine seqE q fun o1 ss1 ω1 H1 y _ rs1 fr1 rp1 q1 => b2 ω1 ss1 σ H1 _ rs1 ?_
    refine seqE q1 fun o2 ss2 ω2 H2 x _ rs2 fr2 rp2 q2 => ?_
    obtain ⟨z, hz, q2⟩ := lift_get q2
    obtain ⟨d, e, e1, e2, e3⟩ := two_some hz
    unfold fDGet at e3
    split at e3
    case h_2 => cases e3
    rename_i ds
    obtain ⟨o3, l1, l2⟩ := Option.bind_eq_some_iff.mp e3
    subst l2
    have by' := Opd.bor rs2 (rp1.go fr2) e1
    have bx := Opd.bor rs2 rp2 e2
    exact ⟨_, e, ds, z, hid_le, bor_dict by' (look_kind l1), bx.rp, l1, fun zv rz => q2 ω2 H2 zv rs2 (.refl _ _) rz⟩
/-- name[k] = v -/
def ownK (ss : SS) (i : Nat) : Option (List (Dt × Dt)) := match ss[i]? with
  | some (some (.o (.dict ds))) => some ds
  | _ => none
theorem ownK_at {ss : SS} {i : Nat} {ds : List (Dt × Dt)} (h : ownK ss i = some ds) : ss[i]? = some (some (.o (.dict ds))) := by
  unfold ownK at h
  split at h
  · cases h; assumption
  · cases h
def mPut (i : Nat) (mk mv : SS → EO Dt) : SS → SO := fun ss => (mv ss).st fun d ss1 => match ownK ss1 i with
  | some _ => (mk ss1).st fun k ss2 => match ownK ss2 i with
    | some ds => match fLook ds k with
      | some _ => if ds.length < sizeLine then .nx (ss2.set i (some (.o (.dict (putD ds k d))))) else .no
      | none => .no
    | none => .no
  | none => .no
theorem own_of {K : PySem.W.Frag} {F H : Hp} {a : Addr} {ds : List (Dt × Dt)} (h : BorD K F H (.ref a) ds) : OwC K F a (H a) (.dict ds) := by
  rcases h with ⟨a', kvs, e, h1, h2⟩ | ⟨a', xs, e, h1, hn, h2⟩
  · cases e; exact .inr (.inl ⟨ds, kvs, rfl, h1, h2⟩)
  · cases e; exact .inr (.inr (.inl ⟨ds, xs, rfl, h1, hn, h2⟩))
theorem s_dput (C : VC X k P w K mg base W) (j : Nat) {x : Str} {p1 p2 : Pos} {mk mv : SS → EO Dt} (hk : VE X K mg W i mk) (hv : VE X K mg W v mv) (hN : ∀ l, (X l).N[j]? = some x := by intro _; rfl) (hvs : ∀ l, Vis (X l).env.scope x := by intro _; first | exact .inl rfl | exact .inr (.inl rfl) | exact .inr (.inr rfl)) (hd : (x == ("__debug__" : Str)) = false := by decide) (hcd : (x == ("__classdict__" : Str)) = false := by decide)
    (hs : ∀ l, swapsWith v (some (.Subscript (.Name x p1) i p2)) pos.line (X l).env = pure false := by intro _; rfl) : VS X K mg W (.Assign [.Subscript (.Name x p1) i p2] v pos) (mPut j mk mv) := by
  obtain ⟨t, a1, a2⟩ := hk.ex
  obtain ⟨u, b1, b2⟩ := hv.ex
  refine ⟨fun D σ H => u σ H fun z H1 => tVar j σ H1 fun y H2 => t σ H2 fun x H3 => ∃ a F k ds d o, y = .ref a ∧ Same F H3 ∧ BorD K F H3 y ds ∧ Rp K F x k ∧ Rp K F z d ∧ fLook ds k = some o ∧ ds.length < sizeLine ∧ ∀ ob, BorD K F (upd H3 a ob) y (putD ds k d) → D.nx σ (upd H3 a ob), fun l => ?_, fun ω ss σ H D rs q => b2 ω ss σ H _ rs ?_⟩
  · refine ⟨fun pins s σ H D I h => ?_⟩
    refine wpAny_Assign_Subscript (thn ((b1 l).run pins s σ H _ I h) fun r s1 ⟨z, H1, I1, rz, q1⟩ => thn ((pe_var (hN l) (hvs l) hd hcd).run pins s1 σ H1 _ I1 q1) fun uv s2 ⟨y, H2, I2, ry, q2⟩ => thn ((a1 l).run pins s2 σ H2 _ I2 q2) fun iv s3 ⟨x', H3, I3, rx, a, F, k', ds, d, o', ey, sF, hy, hx, hz, hl, hlen, q3⟩ => ?_) (hs l)
    subst ey
    obtain rfl : uv = Value.ref a := ry
    rw [← C.eK l] at hy hx hz
    exact x_put (by have := (C.rm l).un; omega) I3 ((C.ew l).trans C.hw) sF hy (Rp.mono sF _ _ hx) hx hz hl hlen rx rz fun ob s4 I4 hb => ⟨σ, _, I4, q3 ob (by rw [← C.eK l]; exact hb)⟩
  · refine seqS q fun d ss1 ω1 H1 zv _ rs1 fr1 rp1 q1 => ?_
    cases ho : ownK ss1 j with
    | none => rw [ho] at q1; exact q1.elim
    | some ds0 =>
      rw [ho] at q1
      obtain ⟨y, w1, p, rfl, w2, w3⟩ := rs1.sl j _ (ownK_at ho)
      refine ⟨_, w1, a2 ω1 ss1 σ H1 _ rs1 (seqS q1 fun kd ss2 ω2 H2 xv _ rs2 fr2 rp2 q2 => ?_)⟩
      cases ho2 : ownK ss2 j with
      | none => rw [ho2] at q2; exact q2.elim
      | some ds =>
        rw [ho2] at q2
        obtain ⟨y2, v1, p2', rfl, v2, v3⟩ := rs2.sl j _ (ownK_at ho2)
        rw [w1] at v1
        cases v1
        dsimp only at q2
        cases hl : fLook ds kd with
        | none => rw [hl] at q2; exact q2.elim
        | some o' =>
          rw [hl] at q2
          dsimp only at q2
          split at q2
          case isFalse => exact q2.elim
          rename_i hlt
          have hb : BorD K (hid ω2 H2) H2 (.ref p) ds := bor_dict (.inr ⟨p, rfl, v3⟩) (look_kind hl)
          refine ⟨p, hid ω2 H2, kd, ds, d, o', rfl, hid_le, hb, rp2, Rp.mono fr2.fz _ _ rp1, hl, hlt, fun ob hb2 => ?_⟩
          have em : hid ω2 (upd H2 p ob) = hid ω2 H2 := by
            funext b
            by_cases hbp : b = p
            · subst hbp
              unfold hid
              rw [v2]
            · unfold hid
              rw [upd_ne hbp]
          obtain ⟨m1, m2, m3⟩ := rs2.mut (o := ob) (s := .o (.dict (putD ds kd d))) v2 w1 ⟨p, rfl, v2, by rw [em]; exact own_of hb2⟩
          exact q2 ω2 σ _ m1 m2
/-- name.pop() -/
def mPop (i : Nat) : SS → EO Dt := fun ss => match ownL ss i with
  | some ds => match ds.getLast? with
    | some d => .ok d (ss.set i (some (.o (.list ds.dropLast))))
    | none => .no
  | none => .no
theorem getLast_at {α : Type} {xs : List α} {y : α} (h : xs.getLast? = some y) : xs[xs.length - 1]? = some y := by
  rw [List.getLast?_eq_getElem?] at h
  exact h
theorem rpa_last {H : Hp} {xs : List V} {ds : List Dt} {d : Dt} (h : RpA K H xs ds) (e : ds.getLast? = some d) : ∃ y, xs[xs.length - 1]? = some y ∧ Rp K H y d := by
  have e := getLast_at e
  rw [← h.length] at e
  exact h.get e
theorem rpa_dropLast {H : Hp} {xs : List V} {ds : List Dt} (h : RpA K H xs ds) : RpA K H xs.dropLast ds.dropLast := by
  rw [List.dropLast_eq_take, List.dropLast_eq_take, h.length]
  exact h.take _
theorem v_pop (C : VC X k P w K mg base W) (j : Nat) {x : Str} {p1 p2 p3 : Pos} (hN : ∀ l, (X l).N[j]? = some x := by intro _; rfl) (hv : ∀ l, Vis (X l).env.scope x := by intro _; first | exact .inl rfl | exact .inr (.inl rfl) | exact .inr (.inr rfl)) (hd : (x == ("__debug__" : Str)) = false := by decide) (hcd : (x == ("__classdict__" : Str)) = false := by decide)
    (hb : ∀ l, attributeBase (.Name x p1) "pop" (X l).env (eval (.Name x p1) (X l).env) = eval (.Name x p1) (X l).env := by intro _; rfl) (hl : (p2.endLine == p3.line) = true := by rfl) : VE X K mg W (.Call (.Attribute (.Name x p1) "pop" p2) [] [] p3) (mPop j) := by
  refine ⟨tBM0 K "list" rPop (tVar j), fun l => by rw [← C.eK l]; exact pe_bm0 PySem.F.plainAttrs_list PySem.F.slot_list_pop PySem.F.type_list_pop (show MtR (X l) "list.pop" rPop from mt_pop) (pe_var (hN l) (hv l) hd hcd) (hb l) hl, fun ω ss σ H Q rs q => ?_⟩
  unfold mPop at q
  cases ho : ownL ss j with
  | none => rw [ho] at q; exact q.elim
  | some ds =>
    rw [ho] at q
    dsimp only at q
    obtain ⟨a, xs, w1, w2, w3, w4⟩ := rs.ownL ho
    cases hg : ds.getLast? with
    | none => rw [hg] at q; exact q.elim
    | some d =>
      rw [hg] at q
      obtain ⟨y, g1, g2⟩ := rpa_last w4 hg
      have em : hid ω (upd H a (.lst xs.dropLast)) = hid ω H := by
        funext b
        by_cases hb : b = a
        · subst hb
          unfold hid
          rw [w2]
        · unfold hid
          rw [upd_ne hb]
      obtain ⟨m1, m2, m3⟩ := rs.mut (o := .lst xs.dropLast) (s := .o (.list ds.dropLast)) w2 w1 ⟨a, rfl, w2, .inl ⟨_, _, rfl, upd_same, by rw [em]; exact rpa_dropLast w4⟩⟩
      refine ⟨_, w1, .inl ⟨rfl, _, .of w3⟩, a, xs, y, rfl, rfl, w3, g1, ?_⟩
      exact q ω _ y m1 m2 (by show Rp K (hid ω (upd H a _)) y d; rw [em]; exact g2)
/-- name.extend(e) -/
def mExtend (i : Nat) (m : SS → EO Dt) : SS → SO := fun ss => match ownL ss i with
  | some _ => (m ss).st fun d ss => match ownL ss i, d with
    | some ds, .list es => if ds.length + es.length ≤ sizeLine then .nx (ss.set i (some (.o (.list (ds ++ es))))) else .no
    | _, _ => .no
  | none => .no
theorem s_extend (C : VC X k P w K mg base W) (i : Nat) {x : Str} {p1 p2 p3 : Pos} {m : SS → EO Dt} (h : VE X K mg W e m) (hN : ∀ j, (X j).N[i]? = some x := by intro _; rfl) (hv : ∀ j, Vis (X j).env.scope x := by intro _; first | exact .inl rfl | exact .inr (.inl rfl) | exact .inr (.inr rfl)) (hd : (x == ("__debug__" : Str)) = false := by decide) (hcd : (x == ("__classdict__" : Str)) = false := by decide)
    (hb : ∀ j, attributeBase (.Name x p1) "extend" (X j).env (eval (.Name x p1) (X j).env) = eval (.Name x p1) (X j).env := by intro _; rfl)
    (hf : ∀ j, ((backTo p3 (starEach (e :: []) (X j).env)).all (fun x => !x.1) && (backToKw p3 (keywordEach [] (X j).env)).all (fun x => x.1.isSome) && decide ((e :: []).length + ([] : List Keyword).length + (if ([] : List Keyword).isEmpty then 0 else 1) < 30)) = true := by intro _; rfl)
    (hl : (p2.endLine == p3.line) = true := by rfl) (hst : ∀ j, starEach (e :: []) (X j).env = (false, eval e (X j).env) :: starEach [] (X j).env := by intro _; rfl) (hpl : ∀ j, (backTo p3 (starEach [] (X j).env)).any (·.1) = false := by intro _; rfl)
    (hsw : ∀ j, swapsWith (.Call (.Attribute (.Name x p1) "extend" p2) [e] [] p3) none pos.line (X j).env = pure false := by intro _; rfl) :
    VS X K mg W (.Expr (.Call (.Attribute (.Name x p1) "extend" p2) [e] [] p3) pos) (mExtend i m) := by
  obtain ⟨t, h1, h2⟩ := h.ex
  refine ⟨tDrop (tBM K "list" rExtend (tVar i) (tCons t tNil)), fun j => ps_expr (by
    rw [← C.eK j]
    exact pe_bm PySem.F.plainAttrs_list PySem.F.slot_list_extend PySem.F.type_list_extend (show MtR (X j) "list.extend" rExtend from mt_extend) (pe_var (hN j) (hv j) hd hcd) (pa_cons (h1 j) pa_nil (hst j)) (hb j) (hf j) hl (hst j) (hpl j)) (hsw j), fun ω ss σ H D rs q => ?_⟩
  unfold mExtend at q
  cases ho : ownL ss i with
  | none => rw [ho] at q; exact q.elim
  | some ds0 =>
    rw [ho] at q
    obtain ⟨a, xs, w1, w2, w3, w4⟩ := rs.ownL ho
    refine ⟨_, w1, .inl ⟨rfl, _, .of w3⟩, h2 ω ss σ H _ rs (seqS q fun d ss1 ω1 H1 y _ rs1 fr1 rp1 q1 => ?_)⟩
    cases ho1 : ownL ss1 i with
    | none => rw [ho1] at q1; exact q1.elim
    | some ds =>
      rw [ho1] at q1
      cases d with
      | list es =>
        dsimp only at q1
        obtain ⟨a1, ys, v1, v2, v3, v4⟩ := rs1.ownL ho1
        have ea : a1 = a := by
          rw [w1] at v1
          cases v1
          rfl
        subst ea
        cases rp1 with
        | @lst b zs _ hb1 hb2 =>
          split at q1
          · rename_i hlt
            have em : hid ω1 (upd H1 a1 (.lst (ys ++ zs))) = hid ω1 H1 := by
              funext b
              by_cases hb : b = a1
              · subst hb
                unfold hid
                rw [v2]
              · unfold hid
                rw [upd_ne hb]
            obtain ⟨m1, m2, m3⟩ := rs1.mut (o := .lst (ys ++ zs)) (s := .o (.list (ds ++ es))) v2 v1 ⟨a1, rfl, v2, .inl ⟨_, _, rfl, upd_same, by rw [em]; exact v4.app hb2⟩⟩
            exact ⟨a1, b, ys, zs, rfl, rfl, v3, hid_le _ _ hb1, by rw [v4.length, hb2.length]; exact hlt, q1 ω1 σ _ m1 m2⟩
          · exact q1.elim
      | _ => exact q1.elim
end
end VL

namespace VL
open PySem PySem.Spec L2
open PyProof.Rows hiding St
variable [WW]
def dcGo (vs : List Nat) (g : Dt → SS → Option SS) (mt : SS → EO Bool) (mk mv : SS → EO Dt) : List Dt → SS → List (Dt × Dt) → EO (List (Dt × Dt))
  | [], ss, acc => .ok acc ss
  | d :: ds, ss, acc => match g d ss with
    | none => .no
    | some ss1 => (mt ss1).calm.bind fun z ss2 => if z = true then (mk ss2).calm.bind fun k ss3 => (mv ss3).calm.bind fun y ss4 => if key1 k = true ∧ acc.length < sizeLine then dcGo vs g mt mk mv ds (wipeS ss4 vs) (putD acc k y) else .no else dcGo vs g mt mk mv ds (wipeS ss2 vs) acc
def mDc (m : SS → EO (List Dt)) (vs : List Nat) (g : Dt → SS → Option SS) (mt : SS → EO Bool) (mk mv : SS → EO Dt) : SS → EO Dt := fun ss => (m ss).bind fun items ss1 => (dcGo vs g mt mk mv items (wipeS ss1 vs) []).bind fun acc ss2 => .ok (.dict acc) (restS ss1 ss2 vs)
section
variable {ι : Type} {X : ι → Cx} {k : Nat} {P : Program} {w : World} {K : PySem.W.Frag} {mg : Str → Option Value} {base : Heap} {W : WX} {e a b c : Expr} {es : List Expr} {pos : Pos}
theorem dc_go {vs gi : List Nat} {m : SS → EO (List Dt)} {g : Dt → SS → Option SS} {mt : SS → EO Bool} {mk me : SS → EO Dt} {wi : TI} {t : TG} {tt : TT} {tk te : TE}
    (a2 : ∀ ω ss σ H R, RS K ω ss σ H → EQg (fun ω' H' (J : It) items => WalkJ K (hid ω' H') items J) K mg W ω σ H (m ss) R → wi σ H R)
    (b2 : ∀ ω ss σ H x d ss' (Q : St → Hp → Prop), RS K ω ss σ H → Rp K (hid ω H) x d → g d ss = some ss' → (∀ ω' σ', RS K ω' ss' σ' H → Frm ω H ω' H → Off gi σ σ' → Q σ' H) → t x σ H Q)
    (c2 : ∀ ω ss σ H Q, RS K ω ss σ H → EQg EqB K mg WF ω σ H (mt ss) Q → tt σ H Q)
    (k2 : ∀ ω ss σ H Q, RS K ω ss σ H → EQg (RpE K) K mg WF ω σ H (mk ss) Q → tk σ H Q)
    (d2 : ∀ ω ss σ H Q, RS K ω ss σ H → EQg (RpE K) K mg WF ω σ H (me ss) Q → te σ H Q) (hgi : ∀ j ∈ gi, j ∈ vs)
    {k : Nat} {ω : Om} {ss : SS} {σ : St} {H : Hp} {Q : VK} (hk : 1000 ≤ k) (rs : RS K ω ss σ H) (q : EQg (NewR K H k) K mg W ω σ H (mDc m vs g mt mk me ss) Q) : tDc wi t tt tk te vs σ H Q := by
  refine a2 ω ss σ H _ rs (seqE0 (R := fun ω' H' (J : It) items => WalkJ K (hid ω' H') items J) (R2 := NewR K H k) q fun items ss1 ω1 H1 J _ rs1 fr1 wj q1 => ?_)
  intro D hD
  have hD0 : H D = none := fr1.tr D hD
  have hDω : ω D = none := rs.free hD0
  obtain ⟨ω2, e2, rs2, fr2, hs2⟩ := (rs1.wipe vs).new (o := .dK []) hk hD
  refine ⟨fun i mm H' => mm = items.length - i ∧ i ≤ items.length ∧ ∃ ω3 ss3 acc xs, RS K ω3 ss3 (wipe σ vs) H' ∧ Frm ω H ω3 H' ∧ Same (hid ω1 H1) (hid ω3 H') ∧ ω3 D = some k ∧ H' D = some (.dK xs) ∧ RpK K (hid ω3 H') xs acc ∧
      EQg (NewR K H k) K mg W ω σ H ((dcGo vs g mt mk me (items.drop i) ss3 acc).bind fun acc ss2 => .ok (.dict acc) (restS ss1 ss2 vs)) Q,
    ⟨_, rfl, Nat.zero_le _, ω2, _, [], [], rs2, fr1.trans fr2, hs2, e2, upd_same, .nil, q1⟩, ?_⟩
  rintro i mm H3 ⟨rfl, hle, ω3, ss3, acc, xs, rs3, fr3, sm3, e3, hx3, rp3, q3⟩
  obtain ⟨wgo, wstop⟩ := wj H3 i (sm3.trans hid_le)
  by_cases hlt : i < items.length
  · obtain ⟨go, yl⟩ := wgo _ (List.getElem?_eq_getElem hlt)
    have hdr : items.drop i = items[i] :: items.drop (i + 1) := List.drop_eq_getElem_cons hlt
    rw [hdr] at q3
    refine .inr ⟨go, fun H' => ∃ ω3 ss3 acc xs, RS K ω3 ss3 (wipe σ vs) H' ∧ Frm ω H ω3 H' ∧ Same (hid ω1 H1) (hid ω3 H') ∧ ω3 D = some k ∧ H' D = some (.dK xs) ∧ RpK K (hid ω3 H') xs acc ∧
      EQg (NewR K H k) K mg W ω σ H ((dcGo vs g mt mk me (items.drop (i + 1)) ss3 acc).bind fun acc ss2 => .ok (.dict acc) (restS ss1 ss2 vs)) Q, fun H' hN => ⟨items.length - (i + 1), by omega, rfl, hlt, hN⟩, fun x H4 hy => ?_⟩
    obtain ⟨sm, rp⟩ := yl x H4 hy
    have rs4 := rs3.grow sm
    have fr4 : Frm ω3 H3 ω3 H4 := .grow sm rs3.own
    have rp4 : Rp K (hid ω3 H4) x items[i] := rp _ (sm3.trans fr4.fz) fun a o h1 h2 => by
      rw [hid_of (rs3.free h2)]
      exact h1
    rw [dcGo] at q3
    cases hgs : g items[i] ss3 with
    | none => rw [hgs] at q3; exact q3.elim
    | some ss4 =>
      rw [hgs] at q3
      dsimp only at q3
      refine b2 ω3 ss3 _ H4 x _ ss4 _ rs4 rp4 hgs fun ω5 σ5 rs5 fr5 off => ?_
      have ew : wipe σ5 vs = wipe σ vs := wipe_off off hgi
      refine ⟨ew, ?_⟩
      refine c2 ω5 ss4 σ5 H4 _ rs5 ?_
      cases hmt : mt ss4 with
      | no => rw [hmt] at q3; exact q3.elim
      | exc c fs s' => rw [hmt] at q3; exact q3.elim
      | ok z ss5 =>
        rw [hmt] at q3
        intro ω6 H6 z' rs6 fr6 ez
        have ez : z' = z := ez
        subst ez
        have fr46 : Frm ω3 H3 ω6 H6 := (fr4.trans fr5).trans fr6
        have q3 : EQg (NewR K H k) K mg W ω σ H ((if z' = true then (mk ss5).calm.bind fun kd ss3 => (me ss3).calm.bind fun y ss4 => if key1 kd = true ∧ acc.length < sizeLine then dcGo vs g mt mk me (items.drop (i + 1)) (wipeS ss4 vs) (putD acc kd y) else .no else dcGo vs g mt mk me (items.drop (i + 1)) (wipeS ss5 vs) acc).bind fun acc ss2 => .ok (.dict acc) (restS ss1 ss2 vs)) Q := q3
        obtain ⟨t1, t2⟩ := fr46.tp D k hk e3
        cases z' with
        | false =>
          rw [if_neg Bool.false_ne_true] at q3 ⊢
          have rw' := rs6.wipe vs
          rw [ew] at rw'
          exact ⟨ω6, _, acc, xs, rw', fr3.trans fr46, sm3.trans fr46.fz, t1, t2.trans hx3, RpK.mono fr46.fz _ _ rp3, q3⟩
        | true =>
          rw [if_pos rfl] at q3 ⊢
          refine k2 ω6 ss5 σ5 H6 _ rs6 ?_
          cases hmk : mk ss5 with
          | no => rw [hmk] at q3; exact q3.elim
          | exc c fs s' => rw [hmk] at q3; exact q3.elim
          | ok kd ssk =>
            rw [hmk] at q3
            intro ωk Hk kv rsk frk rpk
            have q3 : EQg (NewR K H k) K mg W ω σ H (((me ssk).calm.bind fun y ss4 => if key1 kd = true ∧ acc.length < sizeLine then dcGo vs g mt mk me (items.drop (i + 1)) (wipeS ss4 vs) (putD acc kd y) else .no).bind fun acc ss2 => .ok (.dict acc) (restS ss1 ss2 vs)) Q := q3
            refine d2 ωk ssk σ5 Hk _ rsk ?_
            cases hme : me ssk with
            | no => rw [hme] at q3; exact q3.elim
            | exc c fs s' => rw [hme] at q3; exact q3.elim
            | ok y ss6 =>
              rw [hme] at q3
              intro ω7 H7 yv rs7 fr7 rp7
              have q3 : EQg (NewR K H k) K mg W ω σ H ((if key1 kd = true ∧ acc.length < sizeLine then dcGo vs g mt mk me (items.drop (i + 1)) (wipeS ss6 vs) (putD acc kd y) else .no).bind fun acc ss2 => .ok (.dict acc) (restS ss1 ss2 vs)) Q := q3
              have fr47 := (fr46.trans frk).trans fr7
              obtain ⟨u1, u2⟩ := fr47.tp D k hk e3
              have rp3' : RpK K (hid ω7 H7) xs acc := RpK.mono fr47.fz _ _ rp3
              split at q3
              · rename_i hz
                have rw' := rs7.wipe vs
                rw [ew] at rw'
                obtain ⟨j, rfl, rfl⟩ : ∃ j : Key, kd = keyD j ∧ kv = kV j := by
                  have h1 := hz.1
                  have hr := rpk
                  unfold RpE at hr
                  cases kd with
                  | int i => cases hr; exact ⟨.inl i, rfl, rfl⟩
                  | str z => cases hr; exact ⟨.inr z, rfl, rfl⟩
                  | _ => cases h1
                obtain ⟨m1, m2⟩ := rw'.mutT (o := .dK (putK xs j yv)) hk u1
                refine ⟨xs, j, rfl, u2.trans hx3, by rw [RpK.length rp3']; exact hz.2, ω7, _, putD acc (keyD j) y, putK xs j yv, m1, (fr3.trans fr47).mutT hDω hD0 u1, by rw [m2]; exact sm3.trans fr47.fz, u1, upd_same, by rw [m2]; exact rpk_put rp3' rp7, q3⟩
              · exact q3.elim
  · have ei : i = items.length := by omega
    rw [List.drop_of_length_le (by omega)] at q3
    exact .inl ⟨wstop ei, q3 ω3 H3 (.ref D) (rs1.rest rs3 sm3) fr3 ⟨D, rfl, hD0, e3, .inr (.inl ⟨_, _, rfl, hx3, rp3⟩)⟩⟩
/-- {key: value for target in iter if ..} -/
theorem o_dc (C : VC X k P w K mg base W) {tg it kx vx : Expr} {ifs : List Expr} {scope : Scope} {own : List (Str × Nat)} {gi : List Nat} {m : SS → EO (List Dt)} {g : Dt → SS → Option SS} {mt : SS → EO Bool} {mk me : SS → EO Dt}
    (ok : ∀ i, BlkOk (X i).N (X i).env.scope scope own) (hi : VI X K mg W tg it m) (hg : VG (blkX X scope) K tg gi g) (ht : VTs (blkX X scope) K mg WF ifs mt) (hk : VE (blkX X scope) K mg WF kx mk) (he : VE (blkX X scope) K mg WF vx me) (hgi : ∀ j ∈ gi, j ∈ own.map (·.2) := by decide)
    (hs : ∀ i x, foldedSetIterable it (X i).env x = pure x := by intro _ _; rfl) : VO X K mg W (.DictComp kx vx [⟨tg, it, ifs, 0⟩] scope pos) (mDc m (own.map (·.2)) g mt mk me) := by
  obtain ⟨wi, a1, a2⟩ := hi.ex
  obtain ⟨t, b1, b2⟩ := hg.ex
  obtain ⟨tt, c1, c2⟩ := ht.ex
  obtain ⟨tk, k1, k2⟩ := hk.ex
  obtain ⟨te, d1, d2⟩ := he.ex
  exact ⟨_, fun i => pe_dc (C.ca i) (C.nd i) (a1 i) (ok i) (fun s H Ca cl fp => b1 (i, s, H, Ca, cl, fp)) (fun s H Ca cl fp => c1 (i, s, H, Ca, cl, fp)) (fun s H Ca cl fp => k1 (i, s, H, Ca, cl, fp)) (fun s H Ca cl fp => d1 (i, s, H, Ca, cl, fp)) (hs i), fun k ω ss σ H Q hk rs q => dc_go a2 b2 c2 k2 d2 hgi hk rs q⟩
inductive RpP (K : PySem.W.Frag) (F : Hp) : List (V × V) → List (Dt × Dt) → Prop
  | nil : RpP K F [] []
  | cons {x y : V} {ps : List (V × V)} {k d : Dt} {ds : List (Dt × Dt)} : Rp K F x k → Rp K F y d → RpP K F ps ds → RpP K F ((x, y) :: ps) ((k, d) :: ds)
theorem RpP.mono {F F' : Hp} (e : Same F F') {ps : List (V × V)} {ds : List (Dt × Dt)} (h : RpP K F ps ds) : RpP K F' ps ds := by
  induction h with
  | nil => exact .nil
  | cons h1 h2 _ ih => exact .cons (Rp.mono e _ _ h1) (Rp.mono e _ _ h2) ih
structure VDs (X : ι → Cx) (K : PySem.W.Frag) (mg : Str → Option Value) (W : WX) (pos : Pos) (keys : List (Option Expr)) (vals : List Expr) (m : SS → EO (List (Dt × Dt))) : Prop where
  ex : ∃ trs, (∀ i, PPs (X i) pos keys vals trs) ∧ ∀ ω ss σ H Q, RS K ω ss σ H → EQg (fun ω H ps ds => RpP K (hid ω H) ps ds) K mg W ω σ H (m ss) Q → tPairs trs σ H Q
def mDNil : SS → EO (List (Dt × Dt)) := fun ss => .ok [] ss
def mDCons (mk mv : SS → EO Dt) (n : SS → EO (List (Dt × Dt))) : SS → EO (List (Dt × Dt)) := fun ss => (mk ss).bind fun k ss => (mv ss).bind fun d ss => (n ss).bind fun ps ss => .ok ((k, d) :: ps) ss
theorem ds_nil : VDs X K mg W pos [] [] mDNil := ⟨[], fun _ => pps_nil, fun ω ss σ H Q rs q => q ω H [] rs (.refl _ _) .nil⟩
theorem ds_cons {kx vx : Expr} {keys : List (Option Expr)} {vals : List Expr} {mk mv : SS → EO Dt} {n : SS → EO (List (Dt × Dt))} (hk : VE X K mg W kx mk) (hv : VE X K mg W vx mv) (hs : VDs X K mg W pos keys vals n) : VDs X K mg W pos (some kx :: keys) (vx :: vals) (mDCons mk mv n) := by
  obtain ⟨t, a1, a2⟩ := hk.ex
  obtain ⟨u, b1, b2⟩ := hv.ex
  obtain ⟨trs, c1, c2⟩ := hs.ex
  refine ⟨(t, u) :: trs, fun i => pps_cons (a1 i) (b1 i) (c1 i), fun ω ss σ H Q rs q => a2 ω ss σ H _ rs ?_⟩
  refine seqE q fun kd ss1 ω1 H1 x _ rs1 fr1 rp1 q1 => b2 ω1 ss1 σ H1 _ rs1 ?_
  refine seqE q1 fun d ss2 ω2 H2 y _ rs2 fr2 rp2 q2 => c2 ω2 ss2 σ H2 _ rs2 ?_
  refine seqE q2 fun ps ss3 ω3 H3 xs _ rs3 fr3 rp3 q3 => ?_
  exact q3 ω3 H3 _ rs3 (.refl _ _) (.cons (Rp.mono (fr2.fz.trans fr3.fz) _ _ rp1) (Rp.mono fr3.fz _ _ rp2) rp3)
def mergeD (ds more : List (Dt × Dt)) : List (Dt × Dt) := more.foldl (fun acc p => putD acc p.1 p.2) ds
theorem rpp_keys {F : Hp} : ∀ {ds : List (Dt × Dt)} {ps : List (V × V)}, RpP K F ps ds → (ds.all fun p => key1 p.1) = true → ∃ kvs : List (Key × V), ps = kvs.map (fun kv => (kV kv.1, kv.2)) ∧ RpK K F kvs ds
  | [], _, h, _ => by cases h; exact ⟨[], rfl, .nil⟩
  | (kd, d) :: ds, _, h, hk => by
    cases h with
    | @cons x y ps _ _ _ h1 h2 h3 =>
      rw [List.all_cons, Bool.and_eq_true] at hk
      obtain ⟨kvs, rfl, h4⟩ := rpp_keys h3 hk.2
      have hk1 := hk.1
      cases kd with
      | int i => cases h1; exact ⟨(.inl i, y) :: kvs, rfl, RpK.cons (k := .inl i) h2 h4⟩
      | str z => cases h1; exact ⟨(.inr z, y) :: kvs, rfl, RpK.cons (k := .inr z) h2 h4⟩
      | _ => cases hk1
theorem rpk_merge {F : Hp} : ∀ {ds : List (Dt × Dt)} {kvs : List (Key × V)} {acc : List (Dt × Dt)} {xs : List (Key × V)}, RpK K F kvs ds → RpK K F xs acc → RpK K F (mergeK xs kvs) (mergeD acc ds)
  | [], _, acc, xs, h, g => by cases h; exact g
  | (_, d) :: ds, _, acc, xs, h, g => by
    cases h with
    | @cons j x kvs _ _ h1 h2 =>
      show RpK K F (mergeK (putK xs j x) kvs) (mergeD (putD acc (keyD j) d) ds)
      exact rpk_merge h2 (rpk_put g h1)
def mDisp (n : SS → EO (List (Dt × Dt))) : SS → EO Dt := fun ss => (n ss).bind fun ps ss => if (ps.all fun p => key1 p.1) = true ∧ ps.length ≤ 15 then .ok (.dict (mergeD [] ps)) ss else .no
theorem o_disp {keys : List (Option Expr)} {vals : List Expr} {n : SS → EO (List (Dt × Dt))} (h : VDs X K mg W pos keys vals n) (hall : keys.all (·.isSome) = true := by rfl) (hl : keys.length = vals.length := by rfl) (h0 : keys ≠ [] := by exact fun z => nomatch z) (h15 : keys.length ≤ 15 := by decide) : VO X K mg W (.Dict keys vals pos) (mDisp n) := by
  obtain ⟨trs, a1, a2⟩ := h.ex
  refine ⟨tDisp trs, fun i => pe_disp (a1 i) hall hl h0 h15, fun k ω ss σ H Q hk rs q p hp => ?_⟩
  obtain ⟨ω2, e2, rs2, fr2, hs2⟩ := rs.new (o := .dK []) hk hp
  refine a2 ω2 ss σ _ _ rs2 ?_
  cases hn : n ss with
  | no => unfold mDisp at q; rw [hn] at q; exact q.elim
  | exc c fs ss' =>
    unfold mDisp at q
    rw [hn] at q
    exact EQg.shift (R := NewR K H k) (r := .exc c fs ss') q fr2
  | ok ps ss1 =>
    unfold mDisp at q
    rw [hn] at q
    intro ω1 H1 xs rs1 fr1 rp1
    have q1 : EQg (NewR K H k) K mg W ω σ H (if (ps.all fun p => key1 p.1) = true ∧ ps.length ≤ 15 then .ok (.dict (mergeD [] ps)) ss1 else .no) Q := q
    obtain ⟨t1, t2⟩ := fr1.tp p k hk e2
    have hx : H1 p = some (.dK []) := t2.trans upd_same
    split at q1
    case isFalse => exact q1.elim
    rename_i hc
    obtain ⟨kvs, rfl, rk⟩ := rpp_keys rp1 hc.1
    obtain ⟨m1, m2⟩ := rs1.mutT (o := .dK (mergeK [] kvs)) hk t1
    have hlen : kvs.length ≤ 15 := by rw [RpK.length rk]; exact hc.2
    exact ⟨hx, kvs, rfl, hlen, q1 ω1 _ _ m1 ((fr2.trans fr1).mutT (rs.free hp) hp t1) ⟨p, rfl, hp, t1, .inr (.inl ⟨_, _, rfl, upd_same, by rw [m2]; exact rpk_merge rk .nil⟩)⟩⟩
end
end VL

namespace VL
open PySem PySem.Spec L2
open PyProof.Rows hiding St
variable [WW]
inductive NvA (K : PySem.W.Frag) (H0 : Hp) : Nat → Om → Hp → List V → List NV → Prop
  | nil {k : Nat} {ω : Om} {H : Hp} : NvA K H0 k ω H [] []
  | cons {k : Nat} {ω : Om} {H : Hp} {x : V} {xs : List V} {n : NV} {ns : List NV} : NvR K H0 k ω H x n → NvA K H0 (k + 1) ω H xs ns → NvA K H0 k ω H (x :: xs) (n :: ns)
structure VNs {ι : Type} (X : ι → Cx) (K : PySem.W.Frag) (mg : Str → Option Value) (W : WX) (es : List Expr) (m : SS → EO (List NV)) : Prop where
  ex : ∃ t : TA, (∀ i, PA (X i) es t) ∧ ∀ k ω ss σ H Q, 1000 ≤ k → RS K ω ss σ H → EQg (NvA K H k) K mg W ω σ H (m ss) Q → t σ H Q
section
variable {ι : Type} {X : ι → Cx} {k : Nat} {P : Program} {w : World} {K : PySem.W.Frag} {mg : Str → Option Value} {base : Heap} {W : WX} {e a b c : Expr} {es ts : List Expr} {pos : Pos}
theorem NvA.length {H0 : Hp} : ∀ {xs : List V} {ns : List NV} {k : Nat} {ω : Om} {H : Hp}, NvA K H0 k ω H xs ns → xs.length = ns.length
  | _, _, _, _, _, .nil => rfl
  | _, _, _, _, _, .cons _ h => by rw [List.length_cons, List.length_cons, NvA.length h]
def mNNil : SS → EO (List NV) := fun ss => .ok [] ss
def mNCons (m : SS → EO NV) (n : SS → EO (List NV)) : SS → EO (List NV) := fun ss => (m ss).bind fun d ss => (n ss).bind fun ds ss => .ok (d :: ds) ss
theorem ns_nil : VNs X K mg W [] mNNil := ⟨_, fun _ => pa_nil, fun k ω ss σ H Q hk rs h => h ω H [] rs (.refl _ _) .nil⟩
theorem NvA.low {H0 H1 : Hp} (tr : ∀ a, H1 a = none → H0 a = none) : ∀ {xs : List V} {ns : List NV} {k : Nat} {ω : Om} {H : Hp}, NvA K H1 k ω H xs ns → NvA K H0 k ω H xs ns
  | _, _, _, _, _, .nil => .nil
  | _, _, _, _, _, .cons (n := n) h g => .cons (by
      cases n with
      | fz d => exact h
      | ow d =>
        obtain ⟨p, w1, w2, w3, w4⟩ := h
        exact ⟨p, w1, tr p w2, w3, w4⟩) (NvA.low tr g)
theorem ns_cons {m : SS → EO NV} {n : SS → EO (List NV)} (he : VN X K mg W e m) (hs : VNs X K mg W es n) (hst : ∀ i, starEach (e :: es) (X i).env = (false, eval e (X i).env) :: starEach es (X i).env := by intro _; rfl) : VNs X K mg W (e :: es) (mNCons m n) := by
  obtain ⟨t, h1, h2⟩ := he.ex
  obtain ⟨u, g1, g2⟩ := hs.ex
  refine ⟨tCons t u, fun i => pa_cons (h1 i) (g1 i) (hst i), fun k ω ss σ H Q hk rs q => ?_⟩
  refine h2 k ω ss σ H _ hk rs (seqE0 q fun d ss1 ω1 H1 x _ rs1 fr1 rp1 q1 => ?_)
  refine g2 (k + 1) ω1 ss1 σ H1 _ (by omega) rs1 ?_
  cases hn : n ss1 with
  | no => rw [hn] at q1; exact q1
  | exc c fs ss2 => rw [hn] at q1; exact fun ω' H' cls dd rs' f xr => q1 ω' H' cls dd rs' (fr1.trans f) xr
  | ok ds ss2 =>
    rw [hn] at q1
    intro ω2 H2 ys rs2 fr2 rp2
    exact q1 ω2 H2 _ rs2 (fr1.trans fr2) (.cons (rp1.go hk fr2) (rp2.low fr1.tr))
def setAll : SS → List Nat → List NV → SS
  | ss, i :: is, n :: ns => setAll (ss.set i (some n.sv)) is ns
  | ss, _, _ => ss
def gSlots : List Nat → TGs
  | [] => gNil
  | i :: is => gCons (gName i) (gSlots is)
structure VSl (X : ι → Cx) (ts : List Expr) (is : List Nat) : Prop where
  ex : ∀ i, PGs (X i) ts (gSlots is)
theorem sl_nil : VSl X [] [] := ⟨fun _ => pgs_nil⟩
theorem sl_cons (C : VC X k P w K mg base W) (i : Nat) {x : Str} {p : Pos} {is : List Nat} (h : VSl X ts is) (hi : ∀ j, (X j).N[i]? = some x := by intro _; rfl) (hx : ∀ j, Loc (X j).env.scope x := by intro _; first | exact .inl rfl | exact .inr rfl) (hf : ∀ j, (X j).fn x = true ∨ (X j).env.scope.names.lookup x = some .local := by intro _; first | exact .inl rfl | exact .inr rfl)
    (hs : ∀ j, (assignEach (.Name x p :: ts) (X j).env).map (·.2) = assign (.Name x p) (X j).env :: (assignEach ts (X j).env).map (·.2) := by intro _; rfl) : VSl X (.Name x p :: ts) (i :: is) :=
  ⟨fun j => pgs_cons (pg_name (C.nd j) (hi j) (hx j) (hf j)) (h.ex j) (hs j)⟩
theorem slots_go {H0 : Hp} {ω0 : Om} (z0 : ∀ a, H0 a = none → ω0 a = none) : ∀ (is : List Nat) (ns : List NV) (xs : List V) (k : Nat) (ω : Om) (ss : SS) (σ : St) (H : Hp) (Q : St → Hp → Prop), 1000 ≤ k → RS K ω ss σ H → Frm ω0 H0 ω H → NvA K H0 k ω H xs ns → (∀ i ∈ is, i < σ.length) → is.length = ns.length →
    (∀ ω' σ', RS K ω' (setAll ss is ns) σ' H → Frm ω0 H0 ω' H → Q σ' H) → gSlots is xs σ H Q
  | [], ns, xs, k, ω, ss, σ, H, Q, hk, rs, fr, h, _, hl, q => by
    cases ns with
    | nil =>
      cases h
      exact ⟨rfl, q ω σ rs fr⟩
    | cons => cases hl
  | i :: is, ns, xs, k, ω, ss, σ, H, Q, hk, rs, fr, h, hi, hl, q => by
    cases h with
    | nil => cases hl
    | @cons _ _ _ x xs n ns h1 h2 =>
      obtain ⟨ω2, rs2, fr2, hs2, kp2⟩ := store_nv rs fr z0 hk (hi i (by simp)) h1
      have h3 : NvA K H0 (k + 1) ω2 H xs ns := by
        have g : ∀ {xs : List V} {ns : List NV} {j : Nat}, k < j → NvA K H0 j ω H xs ns → NvA K H0 j ω2 H xs ns := by
          intro xs
          induction xs with
          | nil => intro ns j _ h; cases h; exact .nil
          | cons x xs ih =>
            intro ns j hj h
            cases h with
            | @cons _ _ _ _ _ n ns h1 h2 =>
              refine .cons ?_ (ih (by omega) h2)
              cases n with
              | fz d' => exact Rp.mono hs2 _ _ h1
              | ow d' =>
                obtain ⟨p, w1, w2, w3, w4⟩ := h1
                exact ⟨p, w1, w2, kp2 p j (by omega) (by omega) w3, w4.mono hs2⟩
        exact g (Nat.lt_succ_self k) h2
      refine ⟨x, xs, rfl, ?_⟩
      exact slots_go z0 is ns xs (k + 1) ω2 _ _ H Q (by omega) rs2 fr2 h3 (fun j hj => by rw [List.length_set]; exact hi j (by simp [hj])) (by simpa using hl) q
def mParT (is : List Nat) (m : SS → EO (List NV)) : SS → SO := fun ss => (m ss).st fun ns ss => if (is.all fun i => decide (i < ss.length)) = true ∧ is.length = ns.length then .nx (setAll ss is ns) else .no
/-- a, b, .. = x, y, .. -/
theorem s_parT (C : VC X k P w K mg base W) {kt k2 : Nat} {pt pt2 : Pos} {is : List Nat} {n : Nat} {m : SS → EO (List NV)} (hT : VSl X ts is) (h : VNs X K mg W es m) (hi : is.length = n) (hn2 : n ≤ 100)
    (hn : ∀ j, (assignEach ts (X j).env).length = n := by intro _; rfl) (hst : ∀ j, (assignEach ts (X j).env).findIdx? (·.1) = none := by intro _; rfl)
    (hs : ∀ j, swapsWithSole [.Tuple ts kt pt] (.Tuple es k2 pt2) pos.line (X j).env = pure false := by intro _; rfl) (hw : ∀ j, swappedStores [.Tuple ts kt pt] (.Tuple es k2 pt2) (X j).env = pure none := by intro _; rfl)
    (h1 : ∀ j, (assignEach [.Tuple ts kt pt] (X j).env).map (·.2) = [assign (.Tuple ts kt pt) (X j).env] := by intro _; rfl) : VS X K mg W (.Assign [.Tuple ts kt pt] (.Tuple es k2 pt2) pos) (mParT is m) := by
  obtain ⟨t, a1, a2⟩ := h.ex
  refine ⟨tAsg (tTup t) (gTup K n (gSlots is)), fun j => ps_asg (pe_tup (a1 j)) (by rw [← C.eK j]; exact pg_tup (C.ca j) (hT.ex j) (hn j) (hst j)) (hs j) (hw j) (h1 j), fun ω ss σ H D rs q => ?_⟩
  refine a2 1000 ω ss σ H _ (Nat.le_refl _) rs (seqS0 q fun ns ss1 ω1 H1 xs _ rs1 fr1 rp1 q1 => ?_)
  split at q1
  case isFalse => exact q1.elim
  rename_i hc
  have hln : ns.length = n := by rw [← hc.2, hi]
  refine ⟨by rw [rp1.length, hln]; exact Nat.le_trans hn2 (by decide), fun p hp => ?_⟩
  have hsm : Same H1 (upd H1 p (.tup xs)) := same_upd hp
  have fr2 : Frm ω H ω1 (upd H1 p (.tup xs)) := fr1.trans (.grow hsm rs1.own)
  have rp2 : NvA K H 1000 ω1 (upd H1 p (.tup xs)) xs ns := by
    have g : ∀ {ys : List V} {ms : List NV} {j : Nat}, 1000 ≤ j → NvA K H j ω1 H1 ys ms → NvA K H j ω1 (upd H1 p (.tup xs)) ys ms := by
      intro ys
      induction ys with
      | nil => intro ms j _ h; cases h; exact .nil
      | cons y ys ih =>
        intro ms j hj h
        cases h with
        | cons h1 h2 => exact .cons (h1.go hj (.grow hsm rs1.own)) (ih (by omega) h2)
    exact g (Nat.le_refl _) rp1
  refine ⟨p, xs, rfl, .inl (.inl upd_same), by rw [rp1.length, hln], ?_⟩
  refine slots_go (fun a ha => rs.free ha) is ns xs 1000 ω1 ss1 σ _ _ (Nat.le_refl _) (rs1.grow hsm) fr2 rp2 (fun i hi' => ?_) hc.2 fun ω' σ' rs' fr' => q1 ω' σ' _ rs' fr'
  have := List.all_eq_true.mp hc.1 i hi'
  rw [← rs1.len]
  exact of_decide_eq_true this
end
end VL

namespace VL
open PySem PySem.Spec L2
open PyProof.Rows hiding St
variable [WW]
section
variable {prog : Program} {w : World} {A : Around} {R : Result → Shared → Prop} {I l : Addr}
/-- the lists that are put behind one another stand at their places -/
def ListsAt (h : Heap) : List Addr → List (List Value) → Prop := Paired fun a c => ∃ n, h.get? a = some { cls := .type "list", data := .seq c.toArray n }
theorem ListsAt.keep {h h' : Heap} {S : Addr} (k : ∀ b o, b ≠ I → b ≠ S → h.get? b = some o → h'.get? b = some o) : ∀ {as : List Addr} {cs : List (List Value)}, I ∉ as → S ∉ as → ListsAt h as cs → ListsAt h' as cs
  | _, _, _, _, .nil => .nil
  | _, _, hI, hS, .cons ⟨n, e⟩ t => .cons ⟨n, k _ _ (fun z => hI (by simp [z])) (fun z => hS (by simp [z])) e⟩ (ListsAt.keep k (fun z => hI (by simp [z])) (fun z => hS (by simp [z])) t)
theorem ListsAt.get {h : Heap} : ∀ {as : List Addr} {cs : List (List Value)} {i : Nat} {a : Addr}, ListsAt h as cs → as[i]? = some a → ∃ c n, cs[i]? = some c ∧ h.get? a = some { cls := .type "list", data := .seq c.toArray n }
  | _, _, i, a, .nil, e => by simp at e
  | _, _, 0, a, .cons ⟨n, e1⟩ t, e => by
    simp at e
    subst e
    exact ⟨_, n, rfl, e1⟩
  | _, _, i + 1, a, .cons _ t, e => by
    obtain ⟨c, n, q1, q2⟩ := ListsAt.get (i := i) (a := a) t (by simpa using e)
    exact ⟨c, n, by simpa using q1, q2⟩
theorem sum_loopL {l : Addr} {as : List Addr} {cs : List (List Value)} (hh : A.in1.handled = none) (hne : l ≠ I) (hIa : I ∉ as) (S : Addr) (hSI : S ≠ I) (hSl : S ≠ l) (hSa : S ∉ as) (hz : cs.flatten.length ≤ sizeLine) :
    ∀ (k i : Nat) (s : Shared) (T : Addr) (c m : Nat), as.length - i = k → i ≤ as.length → s.heap.IsListIter I l i → s.heap.IsList l (as.map Value.ref).toArray → ListsAt s.heap as cs → s.heap.get? S = some { cls := .type "list", dict := none, data := .seq #[.ref T] c, slots := #[] } →
    s.heap.get? T = some { cls := .type "list", data := .seq (cs.take i).flatten.toArray m } → T ≠ I → T ≠ S → I < s.heap.objs.size → S < s.heap.objs.size →
    (∀ h' tk T' m', (∀ b o, b ≠ I → b ≠ S → s.heap.get? b = some o → h'.get? b = some o) → h'.get? T' = some { cls := .type "list", data := .seq cs.flatten.toArray m' } → ((k = 0 ∧ T' = T) ∨ s.heap.get? T' = none) → R (.ok (.ret (.ref T'))) { s with heap := h', toks := tk }) →
    codeAny (model prog w) A (.builtin "sum.loop" ⟨[.ref I, .ref S, rawInt 2, rawInt 0], []⟩) R s := by
  have W := Walks.list (prog := prog) (w := w) hh I l hne (as.map Value.ref).toArray
  intro k
  induction k with
  | zero =>
    intro i s T c m hk hi hst hl hL hS hT hTI hTS hIz hSz hR
    have hin : i = as.length := by omega
    subst hin
    refine codeAny_builtin F.entry_sum_loop ?_
    rw [Around.under_plainId F.plain_sum_loop _]
    show wpAny _ A.in1 (seqItems? (.ref S) >>= _) _ _ s
    refine wpAny_bind (wpAny_seqItems hS rfl ?_)
    show wpAny _ A.in1 (tryCatch (pyNext (.ref I)) _ >>= _) _ _ s
    have hsz : (as.map Value.ref).toArray.size = as.length := by simp
    refine wpAny_bind (wpAny_tryCatch (W.done s _ _ (by rw [hsz]; exact ⟨hst, hl⟩) fun h' tk hk' => ?_))
    have hlen : cs.length = as.length := (Paired.length hL).symm
    rw [← hlen, List.take_length] at hT
    exact wpAny_pure (hR h' tk T m (fun b o hb _ e => hk' b o (by simpa using hb) e) (hk' T _ (by simpa using hTI) hT) (.inl ⟨rfl, rfl⟩))
  | succ k ih =>
    intro i s T c m hk hi hst hl hL hS hT hTI hTS hIz hSz hR
    have hlt : i < as.length := by omega
    refine codeAny_builtin F.entry_sum_loop ?_
    rw [Around.under_plainId F.plain_sum_loop _]
    show wpAny _ A.in1 (seqItems? (.ref S) >>= _) _ _ s
    refine wpAny_bind (wpAny_seqItems hS rfl ?_)
    show wpAny _ A.in1 (tryCatch (pyNext (.ref I)) _ >>= _) _ _ s
    refine wpAny_bind (wpAny_tryCatch (W.item i s _ _ (by simpa using hlt) ⟨hst, hl⟩ fun v h' tk hP hst' hk' => ?_))
    have hv : v = .ref as[i] := by
      have : ((as.map Value.ref).toArray)[i]? = some v := hP
      rw [List.getElem?_toArray, List.getElem?_map, List.getElem?_eq_getElem hlt] at this
      exact (Option.some.inj this).symm
    subst hv
    have kk : ∀ b o, b ≠ I → s.heap.get? b = some o → h'.get? b = some o := fun b o hb e => hk' b o (by simpa using hb) e
    have hS' := kk S _ hSI hS
    have hT' := kk T _ hTI hT
    obtain ⟨ci, n2, hci, hai⟩ := hL.get (List.getElem?_eq_getElem hlt)
    have hai' := kk as[i] _ (fun z => hIa (by rw [← z]; exact List.getElem_mem hlt)) hai
    have htk : (cs.take (i + 1)).flatten = (cs.take i).flatten ++ ci := by
      rw [List.take_succ, hci]
      simp
    have hle : ∀ j, (cs.take j).flatten.length ≤ cs.flatten.length := fun j => by
      conv => rhs; rw [← List.take_append_drop j cs]
      rw [List.flatten_append, List.length_append]
      omega
    show wpAny _ A.in1 ((holding [Value.ref as[i]] (binaryOp .Add (.ref T) (.ref as[i]))).attempt >>= _) _ _ _
    refine wpAny_bind (wpAny_attempt (wpAny_holding (PySem.P.add_list (s := { s with heap := h', toks := tk }) hT' hai' ?_ (by
      have := hle (i + 1)
      rw [htk, List.length_append] at this
      simp only [List.size_toArray]
      omega))))
    have ea : (cs.take i).flatten.toArray ++ ci.toArray = (cs.take (i + 1)).flatten.toArray := by rw [htk]; simp
    rw [ea]
    obtain ⟨h2, e2⟩ : ∃ h2, h2 = h'.push { cls := .type "list", data := .seq (cs.take (i + 1)).flatten.toArray } := ⟨_, rfl⟩
    show wpAny _ A.in1 (updateSeq S (fun _ => #[.ref h'.objs.size]) >>= _) _ _ { s with heap := h'.push _, toks := tk }
    rw [← e2]
    have k2 : ∀ b o, h'.get? b = some o → h2.get? b = some o := fun b o e => by rw [e2]; exact Heap.get?_push_of_some _ e
    have hN : h2.get? h'.objs.size = some { cls := .type "list", data := .seq (cs.take (i + 1)).flatten.toArray } := by rw [e2]; exact Heap.get?_push_size _ rfl
    have hSlt : S < h'.objs.size := Heap.lt_size hS'
    have hTlt : T < h'.objs.size := Heap.lt_size hT'
    refine wpAny_bind ?_
    refine wpAny_updateSeq (k2 S _ hS') rfl ?_
    refine wpAny_bind (wpAny_letGo ?_)
    refine wpAny_bind ?_
    have hS2 := Heap.get?_update_self (Obj.mapSeq fun _ => #[Value.ref h'.objs.size]) (k2 S _ hS') rfl
    refine wpAny_updateSeq hS2 rfl ?_
    obtain ⟨h3, e3⟩ : ∃ h3, h3 = (h2.update S (Obj.mapSeq fun _ => #[Value.ref h'.objs.size])).update S (Obj.mapSeq fun _ => #[Value.ref h'.objs.size]) := ⟨_, rfl⟩
    have k3 : ∀ b o, b ≠ S → h2.get? b = some o → h3.get? b = some o := fun b o hb e => by
      rw [e3]
      exact (Heap.get?_update_other _ _ (Ne.symm hb)).trans ((Heap.get?_update_other _ _ (Ne.symm hb)).trans e)
    rw [← e3]
    have kAll : ∀ b o, b ≠ I → b ≠ S → s.heap.get? b = some o → h3.get? b = some o := fun b o h1 h2' e => k3 b o h2' (k2 b o (kk b o h1 e))
    have hNI : h'.objs.size ≠ I := by
      obtain ⟨oI, hoI, _⟩ := hst'.1
      exact Nat.ne_of_gt (Heap.lt_size hoI)
    have hNS : h'.objs.size ≠ S := Nat.ne_of_gt hSlt
    have hI3 : h3.IsListIter I l (i + 1) := hst'.1.at fun o e => k3 I o (Ne.symm hSI) (k2 I o e)
    have hS3 : h3.get? S = some { cls := .type "list", dict := none, data := .seq #[.ref h'.objs.size] c, slots := #[] } := by
      rw [e3]
      exact Heap.get?_update_self _ hS2 rfl
    have hI3s : I < h3.objs.size := by
      obtain ⟨oI, hoI, _⟩ := hI3
      exact Heap.lt_size hoI
    refine wpAny_pure ⟨plainId_quiet F.plain_sum_loop _, ih (i + 1) { s with heap := h3, toks := tk } h'.objs.size c 0 (by omega) hlt hI3 (hl.at fun o e => kAll l o hne (Ne.symm hSl) e) (hL.keep (I := I) (S := S) kAll hIa hSa) hS3 (k3 _ _ hNS hN) hNI hNS hI3s (Heap.lt_size hS3) fun h4 tk4 T' m' k4 hT4 hT4' => ?_⟩
    refine hR h4 tk4 T' m' (fun b o h1 h2' e => k4 b o h1 h2' (kAll b o h1 h2' e)) hT4 (.inr ?_)
    cases hg : s.heap.get? T' with
    | none => rfl
    | some o =>
      exfalso
      rcases hT4' with ⟨_, rfl⟩ | h5
      · exact absurd (Heap.lt_size (kk _ _ hNI hg)) (Nat.lt_irrefl _)
      · have h5 : h3.get? T' = none := h5
        by_cases e1 : T' = I
        · obtain ⟨oI, hoI, _⟩ := hI3
          rw [e1, hoI] at h5
          cases h5
        · by_cases e4 : T' = S
          · rw [e4, hS3] at h5
            cases h5
          · rw [kAll T' o e1 e4 hg] at h5
            cases h5
end
/-- sum(lists, []) -/
theorem F.args_sum2 (a b : Value) : argsOk "sum" ⟨[a, b], []⟩ := by unfold argsOk; kernel_rfl
theorem call_sumL {X : Cx} (hc : X.calm = true) : CallR X (.builtin "sum") (fun xs H Q => ∃ p q as yss, xs = [V.ref p, V.ref q] ∧ as ≠ [] ∧ H p = some (.lst (as.map V.ref)) ∧ H q = some (.lst []) ∧ Paired (fun a ys => H a = some (.lst ys)) as yss ∧ yss.flatten.length ≤ sizeLine ∧ ∀ l, H l = none → Q (.ref l) (upd H l (.lst yss.flatten))) := by
  intro pins s σ H xs us Q I r h
  obtain ⟨p, q, as, yss, rfl, hne, hp, hq, ha, hz, q1⟩ := h
  obtain ⟨u1, u2, rfl, rx, ry⟩ := vals2 r
  cases rx
  cases ry
  obtain ⟨zp, its, n, r1, e1⟩ := I.hok _ _ hp
  clear zp
  obtain ⟨_, it2, n2, r2, e2⟩ := I.hok _ _ hq
  cases r2
  have hits : its = as.map Value.ref := by
    clear e1 hp ha hne r q1
    revert its
    induction as with
    | nil => intro its r1; cases r1; rfl
    | cons a as ih =>
      intro its r1
      cases r1 with
      | cons r3 r4 =>
        cases r3
        rw [ih _ r4]
        rfl
  subst hits
  obtain ⟨cs, hL, hV⟩ : ∃ cs, ListsAt s.heap as cs ∧ Paired Vals yss cs := by
    clear e1 hp hne r r1 q1 hz
    induction ha with
    | nil => exact ⟨[], .nil, .nil⟩
    | cons h1 _ ih =>
      obtain ⟨cs, i1, i2⟩ := ih
      obtain ⟨_, its, n, r5, e5⟩ := I.hok _ _ h1
      exact ⟨its :: cs, .cons ⟨n, e5⟩ i1, .cons r5 i2⟩
  have hVf : Vals yss.flatten cs.flatten := by
    clear hL q1 hz ha
    induction hV with
    | nil => exact .nil
    | cons h1 _ ih =>
      rw [List.flatten_cons, List.flatten_cons]
      exact h1.append ih
  have hasz : ∀ a ∈ as, a < s.heap.objs.size := by
    clear hV e1 hp hne r r1 q1 hz ha hVf
    intro a hm
    obtain ⟨i, hi, rfl⟩ := List.mem_iff_getElem.mp hm
    obtain ⟨c, n, _, e⟩ := hL.get (List.getElem?_eq_getElem hi)
    exact Heap.lt_size e
  have hps := Heap.lt_size e1
  have hqs := Heap.lt_size e2
  refine call_function_tree F.kind_sum F.plain_sum F.entry_sum (VL.F.args_sum2 _ _) ?_
  unfold Builtin.«sum»
  simp only [List.length_cons, List.length_nil]
  rw [if_neg (by decide)]
  refine wpAny_bind (wpAny_of_eq (show Builtin.Builtins.bindParams "sum" ["start"] 0 ⟨[Value.ref q], []⟩ = pure [some (Value.ref q)] from rfl) ?_)
  refine wpAny_bind (iter_any ⟨_, e1, rfl, n, rfl⟩ fun s₂ es st hnl => ?_)
  subst es
  have kp1 : ∀ b o, s.heap.get? b = some o → (s.heap.push { cls := .type "list_iterator", data := .fields #[.ref p, .int 0 0] }).get? b = some o := fun b o e => Heap.get?_push_of_some _ e
  obtain ⟨h2, eh2⟩ : ∃ h2, h2 = s.heap.push { cls := .type "list_iterator", data := .fields #[.ref p, .int 0 0] } := ⟨_, rfl⟩
  rw [← eh2] at kp1 st
  rw [← eh2]
  refine wpAny_bind (wpAny_pure ?_)
  simp only [List.forIn_cons, List.forIn_nil]
  have hqo := kp1 _ _ e2
  have hT : Shared.TypeIs { s with heap := h2 } (.ref q) "list" := Heap.IsList.typeIs ⟨_, hqo, rfl, n2, rfl⟩
  refine wpAny_bind (wpAny_bind (wpAny_bind (wpAny_isInstance (T := "list") (b := false) hT PySem.F.sub_list_str ?_)))
  simp only [Bool.false_eq_true, if_false]
  refine wpAny_pure (wpAny_bind (wpAny_bind (wpAny_isInstance (T := "list") (b := false) hT PySem.F.sub_list_bytes ?_)))
  simp only [Bool.false_eq_true, if_false]
  refine wpAny_pure (wpAny_bind (wpAny_bind (wpAny_isInstance (T := "list") (b := false) hT PySem.F.sub_list_bytearray ?_)))
  simp only [Bool.false_eq_true, if_false]
  refine wpAny_pure (wpAny_pure ?_)
  refine wpAny_bind (wpAny_newObj_type ?_)
  have hh2 : h2.objs.size = s.heap.objs.size + 1 := by rw [eh2]; exact Heap.size_push _ _
  have kp2 : ∀ b o, s.heap.get? b = some o → (h2.push { cls := .type "list", data := .seq #[.ref q] }).get? b = some o := fun b o e => Heap.get?_push_of_some _ (kp1 _ _ e)
  have hlen := hVf.length
  have hS1 : s.heap.objs.size < h2.objs.size := by omega
  have hSa : h2.objs.size ∉ as := fun z => Nat.lt_irrefl _ (Nat.lt_trans (hasz _ z) hS1)
  have hIa : s.heap.objs.size ∉ as := fun z => Nat.lt_irrefl _ (hasz _ z)
  refine wpAny_pure ⟨plainId_quiet PySem.F.plain_sum_loop _, sum_loopL (as := as) (cs := cs) (I.ok.hd hc) (Nat.ne_of_lt hps) hIa h2.objs.size (Nat.ne_of_gt hS1) (Nat.ne_of_gt (Nat.lt_trans hps hS1)) hSa (by rw [← hlen]; exact hz) as.length 0 _ q _ n2 rfl (Nat.zero_le _)
    (st.1.at fun o e => Heap.get?_push_of_some _ e) (st.2.at fun o e => Heap.get?_push_of_some _ e) (hL.keep (I := s.heap.objs.size) (S := h2.objs.size) (fun b o _ _ e => kp2 b o e) hIa hSa) (Heap.get?_push_size _ rfl) (kp2 _ _ e2) (Nat.ne_of_lt hqs) (Nat.ne_of_lt (Nat.lt_trans hqs hS1)) (Nat.lt_trans hS1 (Heap.lt_size (Heap.get?_push_size _ rfl))) (Heap.lt_size (Heap.get?_push_size _ rfl)) fun h' tk T' m' hk hT' hf => ?_⟩
  have hk' : ∀ b o, s.heap.get? b = some o → h'.get? b = some o := fun b o e => hk b o (Nat.ne_of_lt (Heap.lt_size e)) (Nat.ne_of_lt (Nat.lt_trans (Heap.lt_size e) hS1)) (kp2 b o e)
  have hn0 : s.heap.get? T' = none := by
    rcases hf with ⟨z, _⟩ | z
    · cases as with
      | nil => exact absurd rfl hne
      | cons => cases z
    · cases hg : s.heap.get? T' with
      | none => rfl
      | some o =>
        rw [kp2 _ _ hg] at z
        cases z
  have hHn : H T' = none := I.hok.gone hn0
  exact ⟨.ref T', upd H T' (.lst yss.flatten), I.laidN hk' hn0 hHn (show ObjOk X.prog X.w _ h' _ (.lst yss.flatten) from ⟨hz, cs.flatten, m', hVf, hT'⟩), rfl, q1 T' hHn⟩
def catD : List Dt → Option (List Dt)
  | [] => some []
  | .list xs :: r => (catD r).map fun ys => xs ++ ys
  | _ :: _ => none
def fSumL : List Dt → Option (List Dt)
  | [.list (d :: ds), .list []] => (catD (d :: ds)).bind fun ys => if ys.length ≤ sizeLine then some ys else none
  | _ => none
theorem catD_rp {K : PySem.W.Frag} {H G : Hp} (hg : Same G H) : ∀ {ds zs : List Dt} {xs : List V}, RpA K G xs ds → catD ds = some zs → ∃ as yss, xs = as.map V.ref ∧ Paired (fun a ys => H a = some (.lst ys)) as yss ∧ RpA K G yss.flatten zs
  | [], _, _, h, e => by
    cases h
    cases e
    exact ⟨[], [], rfl, .nil, .nil⟩
  | d :: ds, _, _, h, e => by
    cases h with
    | cons h1 h2 =>
      cases d with
      | list zs0 =>
        unfold catD at e
        obtain ⟨ys, e1, rfl⟩ := Option.map_eq_some_iff.mp e
        obtain ⟨as, yss, rfl, i1, i2⟩ := catD_rp hg h2 e1
        cases h1 with
        | lst q1 q2 => exact ⟨_ :: as, _ :: yss, rfl, .cons (hg _ _ q1) i1, by rw [List.flatten_cons]; exact q2.app i2⟩
      | _ => cases e
section
variable {ι : Type} {X : ι → Cx} {k : Nat} {P : Program} {w : World} {K : PySem.W.Frag} {mg : Str → Option Value} {base : Heap} {W : WX}
theorem u_sumL (C : VC X k P w K mg base W) : OuS X K (.builtin "sum") fSumL := by
  refine ⟨_, fun i => call_sumL (C.ca i), fun ω H xs ds z Q bx hf q => ?_⟩
  unfold fSumL at hf
  split at hf
  · rename_i d ds'
    obtain ⟨ys, e1, e2⟩ := Option.bind_eq_some_iff.mp hf
    split at e2
    · rename_i hz
      cases e2
      obtain ⟨x, y, rfl, b1, b2⟩ := bor2 bx
      obtain ⟨a, xs1, rfl, h1, h2⟩ := bor_lst b1
      obtain ⟨a2, xs2, rfl, h3, h4⟩ := bor_lst b2
      cases h4
      obtain ⟨as, yss, rfl, i1, i2⟩ := catD_rp (hid_le) h2 e1
      exact ⟨_, _, as, yss, rfl, (fun z => by subst z; cases h2), h1, h3, i1, by rw [RpA.length i2]; exact hz, fun l hl => q l _ hl i2⟩
    · cases e2
  · cases hf
end
end VL

namespace VL
open PySem PySem.Spec L2
open PyProof.Rows hiding St
variable [WW]

section
open PySem.W
variable {prog : Program} {w : World} {A : Around} {E : Value → Shared → Prop} {s : Shared} {K : Frag} {x y C L f : Addr} {h₀ : Heap} {m : Str → Option Value} {ox oy : Obj} {od od' : Option Obj} {name : Str}
theorem one_bind (self : Value) : bindSpecial (.builtin "object.__ne__") self = pure (.builtin "object.__ne__", [self]) := PySem.F.cmp_object.ne.bind self
theorem ifBound_B {M : Model} {args : List Value} {Q : Option Value → Shared → Prop} (X : K.In s.heap) (I : InstAt s.heap x ox C od) (hs : findIn K (.ref C) name = some (some (.builtin "object.__ne__")))
    (h : wpAny M A (PySem.call (.builtin "object.__ne__") (.ref x :: args)) (fun v => Q (some v)) E s) : wpAny M A (callSpecialIfBound? (.ref x) name args) Q E s := by
  simp only [callSpecialIfBound?, bindSpecialIfBound?]
  refine wpAny_holding (wpAny_bind (wpAny_bind (wpAny_bind (I.type.here ((looks_findIn X hs).here ?_)))))
  simp only [one_bind]
  refine wpAny_bind (wpAny_askSetting (wpAny_ite ?_))
  have fin : wpAny M A (PySem.call (.builtin "object.__ne__") ([.ref x] ++ args) >>= fun v => pure (some v)) Q E s := wpAny_bind (wpAny_mono h (fun v s' h' => wpAny_pure h') fun _ _ h' => h')
  split
  · exact wpAny_bind (wpAny_pure (wpAny_pure fin))
  · exact wpAny_tryCatch (wpAny_bind (wpAny_pure (wpAny_pure fin)))
theorem ne_K {Q : Value → Shared → Prop} (hu : A.units + 1 < cLine) (X : K.In s.heap) (I : InstAt s.heap x ox C od) (I' : InstAt s.heap y oy C od') (hn : findIn K (.ref C) "__ne__" = some (some (.builtin "object.__ne__"))) (he : findIn K (.ref C) "__eq__" = some (some (.ref f))) (hf : isFn K (.ref f) = true)
    (hm : mroIn K C (.type "object") = some true) (h : wpAny (model prog w) A.in1 (PySem.call (.ref f) [.ref x, .ref y]) (fun v s' => ∃ b, v = .bool b ∧ Q (.bool (!b)) s') E s) : wpAny (model prog w) A (richCompare .NotEq (.ref x) (.ref y)) Q E s := by
  have one : wpAny (model prog w) A (tryCompare (.ref x) "__ne__" (.ref y)) (fun r s' => ∃ v, r = some v ∧ Q v s') E s := by
    unfold tryCompare
    refine wpAny_bind (ifBound_B X I hn (wpAny_call (codeAny_call_builtin PySem.F.cmp_object.ne.plain PySem.F.cmpEntry_ne (check_slot PySem.F.cmpKind_ne PySem.F.cmpSplit_ne (I.type.andThen (looks_mroIn X hm)) (PySem.F.cmpArgs_ne _ _) ?_))))
    unfold Builtin.«object.__ne__»
    have hu' : A.in1.units < cLine := hu
    repeat (first
      | with_reducible refine wpAny_cRoomFor hu' ?_
      | (refine wpAny_bind (m := callSpecialIfBound? (.ref x) (Str.ofString "__eq__") [.ref y])
          (ifBound_K X I he hf (wpAny_mono h (fun r s' hr => by
            obtain ⟨b, rfl, hq⟩ := hr
            repeat (first | exact ⟨_, rfl, hq⟩ | exact wpAny_pure ⟨_, rfl, hq⟩ | exact wpAny_pure (wpAny_pure ⟨_, rfl, hq⟩) | exact wpAny_truthy_bool ⟨_, rfl, hq⟩ | (refine wpAny_bind (m := truthy (.bool _)) (wpAny_truthy_bool ?_)) | wp_step)) fun _ _ e => e)))
      | wp_step)
  unfold richCompare
  simp only [oneThing_ref]
  refine wpAny_holding (wpAny_bind (wpAny_cRoomFor (Nat.lt_of_succ_lt hu) ?_))
  rw [cmpInfo_NotEq]
  dsimp only
  refine wpAny_bind (I.type.here (wpAny_bind (I'.type.here ?_)))
  rw [show (Value.ref C != Value.ref C) = false from by simp]
  simp only [Bool.false_eq_true, if_false]
  refine wpAny_bind (wpAny_pure ?_)
  simp only [Bool.false_eq_true, if_false]
  refine wpAny_bind (wpAny_mono one (fun r s' z => ?_) fun _ _ e => e)
  obtain ⟨v, rfl, hq⟩ := z
  exact wpAny_pure hq
end
section
variable {Y : Cx} {k : Nat} {f C : Addr} {fd : FuncData} {ps : List Str} {sp : Sp}
/-- x != y, both instances of C, by C's own __eq__ -/
def rNeI (C : Addr) (sp : Sp) : R2 := fun x y H Q => ∃ a b dx dy fs gs, x = .ref a ∧ y = .ref b ∧ H a = some (.ins C dx fs) ∧ H b = some (.ins C dy gs) ∧ sp [x, y] H (fun v H' => ∃ z, v = .bl z ∧ Q (.bl (!z)) H') (fun _ _ _ => False)
theorem op_neI (F : FnG Y.prog Y.w Y.K Y.mg Y.base k f fd ps sp) (hn : PySem.W.findIn Y.K (.ref C) "__ne__" = some (some (.builtin "object.__ne__"))) (hs : PySem.W.findIn Y.K (.ref C) "__eq__" = some (some (.ref f))) (hf : PySem.W.isFn Y.K (.ref f) = true)
    (hm : PySem.W.mroIn Y.K C (.type "object") = some true) (hr : Room (k + 1) Y.A) (hg : Y.A.guards = some []) (hb : Binds Y.K fd ps []) : OpR Y (compareOp .NotEq) (rNeI C sp) := by
  intro pins s σ H x y u v Q I rx ry h
  obtain ⟨a, b, dx, dy, fs, gs, rfl, rfl, ha, hb', hsp⟩ := h
  cases rx
  cases ry
  obtain ⟨mA, J, _⟩ := ins_get I.hok ha
  obtain ⟨mB, J', _⟩ := ins_get I.hok hb'
  obtain ⟨od, J, _⟩ := J.look
  obtain ⟨od', J', _⟩ := J'.look
  show wpAny (model Y.prog Y.w) Y.A (richCompare .NotEq (.ref a) (.ref b)) (EP Y pins σ Q) Y.xe s
  refine ne_K (Nat.lt_of_le_of_lt (Nat.add_le_add_left (by decide) _) hr.units) I.kIn J J' hn hs hf hm ?_
  have r2 : Vals [V.ref a, V.ref b] [Value.ref a, Value.ref b] := .cons rfl (.cons rfl .nil)
  have lv : ([Value.ref a, Value.ref b] ++ []).length = ps.length := by rw [List.append_nil, ← r2.length]; exact F.len _ _ _ _ hsp
  have b1 := hb s [.ref a, .ref b] I.kIn lv
  rw [List.append_nil] at b1
  refine wpAny_call (codeAny_mono (F.go Y.A.in1 Y.stack s H ⟨[.ref a, .ref b], []⟩ _ _ _ (EX0 σ) hr.in1 hg I.env0.in1 b1 r2 hsp) fun z s' hq => ?_)
  cases z with
  | error z => exact (pass00 σ) pins H s z s' I hq
  | ok fl =>
    cases fl with
    | ret u =>
      obtain ⟨v, H', I3, rv, ⟨z, ez, q3⟩⟩ := I.after hq
      subst ez
      cases rv
      exact ⟨z, rfl, .bl (!z), H', I3, rfl, q3⟩
    | next => exact False.elim hq
    | brk => exact False.elim hq
    | cont => exact False.elim hq
end
section
variable {ι : Type} {X : ι → Cx} {k : Nat} {P : Program} {w : World} {K : PySem.W.Frag} {mg : Str → Option Value} {base : Heap} {W : WX} {e a b o : Expr} {es : List Expr} {pos p apos : Pos} {j n : Nat} {ps ks : List Str} {x c q : Str} {st : Stmt}
def mNeI (c : Str) (g : List Dt → Res Dt) (m n : SS → EO Dt) : SS → EO Dt := fun ss => (m ss).bind fun d ss1 => (n ss1).bind fun e ss2 => if isC c d = true ∧ isC c e = true then match g [d, e] with
  | .ok (.bool z) => .ok (.bool (!z)) ss2
  | _ => .no
  else .no
structure NeF (K : PySem.W.Frag) (c : Str) : Prop where
  ne : PySem.W.findIn K (.ref (WW.cl c)) "__ne__" = some (some (.builtin "object.__ne__"))
  mro : PySem.W.mroIn K (WW.cl c) (.type "object") = some true
/-- a != b by an own __eq__ -/
theorem neI_go {g : List Dt → Res Dt} {m n : SS → EO Dt} (C : VC X k P w K mg base W) (G : Gm P w K mg base j c "__eq__" q st ps (spF K mg 2 g)) (N : NeF K c) (hj : j + 1 ≤ k) (hm : VE X K mg W a m) (hn : VE X K mg W b n) : ∃ (r : R2) (t u : TE), (∀ i, OpR (X i) (compareOp .NotEq) r) ∧ (∀ i, PE (X i) a t) ∧ (∀ i, PE (X i) b u) ∧ ∀ ω ss σ H Q, RS K ω ss σ H → EQg (RpE K) K mg W ω σ H (mNeI c g m n ss) Q → tOp r t u σ H Q := by
  obtain ⟨f, fd, F, M, hb, fn⟩ := G.ex
  obtain ⟨t, a1, a2⟩ := hm.ex
  obtain ⟨u, b1, b2⟩ := hn.ex
  refine ⟨rNeI (WW.cl c) (spF K mg 2 g), t, u, fun i => (op_neI (k := j) (f := f) (fd := fd) (ps := ps) (by rw [C.eP i, C.ew i, C.eK i, C.em i, C.eb i]; exact fn) (by rw [C.eK i]; exact N.ne) (by rw [C.eK i]; exact M.at_) (by rw [C.eK i]; exact M.fn) (by rw [C.eK i]; exact N.mro) ((C.rm i).mono hj) (C.gd i) (by rw [C.eK i]; exact hb)), a1, b1, fun ω ss σ H Q rs q => a2 ω ss σ H _ rs ?_⟩
  refine seqE q fun d ss1 ω1 H1 y _ rs1 fr1 rp1 q1 => b2 ω1 ss1 σ H1 _ rs1 ?_
  refine seqE q1 fun d2 ss2 ω2 H2 y2 _ rs2 fr2 rp2 q2 => ?_
  split at q2
  case isFalse => exact q2.elim
  rename_i hc
  obtain ⟨ns, ds, rfl⟩ := isC_some hc.1
  obtain ⟨ns2, ds2, rfl⟩ := isC_some hc.2
  have rp1' := Rp.mono fr2.fz _ _ rp1
  obtain ⟨p1, dx, gs, e1, h1, _, _⟩ := rp_ins rp1'
  obtain ⟨p2, dy, gs2, e2, h2, _, _⟩ := rp_ins rp2
  refine ⟨p1, p2, dx, dy, gs, gs2, e1, e2, hid_le _ _ h1, hid_le _ _ h2, rfl, hid ω2 H2, _, hid_le, .cons rp1' (.one rp2), ?_⟩
  split at q2
  · rename_i z hz
    rw [hz]
    intro F' H' v kp rv
    obtain ⟨r1, r2, r3⟩ := rs2.behind kp
    cases rv
    exact ⟨z, rfl, q2 ω2 H' _ r1 r2 (.bl _)⟩
  · exact q2.elim

theorem v_neI {g : List Dt → Res Dt} {m n : SS → EO Dt} (C : VC X k P w K mg base W) (G : Gm P w K mg base j c "__eq__" q st ps (spF K mg 2 g)) (N : NeF K c) (hj : j + 1 ≤ k) (hm : VE X K mg W a m) (hn : VE X K mg W b n) (hk : behindInMarks .NotEq b = false := by rfl) : VE X K mg W (.Compare a [.NotEq] [b] pos) (mNeI c g m n) := by
  obtain ⟨r, t, u, a1, h1, g1, z⟩ := neI_go C G N hj hm hn
  exact ⟨_, fun i => pe_cmpR (a1 i) (h1 i) (g1 i) hk, z⟩
theorem t_neI {g : List Dt → Res Dt} {m n : SS → EO Dt} (C : VC X k P w K mg base W) (G : Gm P w K mg base j c "__eq__" q st ps (spF K mg 2 g)) (N : NeF K c) (hj : j + 1 ≤ k) (hm : VE X K mg W a m) (hn : VE X K mg W b n) (hk : behindInMarks .NotEq b = false := by rfl) : VT X K mg W (.Compare a [.NotEq] [b] pos) (toB (mNeI c g m n)) := by
  obtain ⟨r, t, u, a1, h1, g1, z⟩ := neI_go C G N hj hm hn
  exact ⟨_, fun i => pt_cmpR (a1 i) (h1 i) (g1 i) hk, tst_go z⟩

def repS (a : Str) (n : Nat) : Str := ⟨(List.replicate n a.cps).foldl (· ++ ·) #[]⟩
theorem foldl_size (c : Array Nat) : ∀ (n : Nat) (acc : Array Nat), ((List.replicate n c).foldl (· ++ ·) acc).size = acc.size + n * c.size
  | 0, acc => by simp
  | n + 1, acc => by rw [List.replicate_succ, List.foldl_cons, foldl_size c n, Array.size_append, Nat.succ_mul]; omega
theorem repS_len (a : Str) (n : Nat) : (repS a n).length = n * a.length := by
  show ((List.replicate n a.cps).foldl (· ++ ·) #[]).size = _
  rw [foldl_size]
  show 0 + n * a.cps.size = n * a.cps.size
  omega
theorem op_mulS {X : Cx} : OpR X (binaryOp .Mult) (fun x y H Q => ∃ (a : Str) (n : Int), x = .str a ∧ y = .int n ∧ 2 ≤ n ∧ n ≤ 1000 ∧ 1 ≤ a.length ∧ a.length ≤ 1000 ∧ Q (.str (repS a n.toNat)) H) := by
  intro pins s σ H x y u v Q I rx ry h
  obtain ⟨a, n, rfl, rfl, h1, h2, h3, h4, hq⟩ := h
  obtain ⟨t, rfl⟩ := rx
  obtain ⟨t2, rfl⟩ := ry
  refine PySem.P.mul_str ?_ ?_ ?_ ?_
  · rw [decide_eq_false (show ¬ n < -(2 ^ 63 : Int) by omega), decide_eq_false (show ¬ n ≥ 2 ^ 63 by omega)]; rfl
  · intro _ _ hgt
    have : (1000 : Int) ≤ (2 ^ 63 - 1) / n := Int.le_ediv_of_mul_le (by omega) (by omega)
    omega
  · intro _ _
    refine decide_eq_false ?_
    have h5 : a.length * n.toNat ≤ 1000 * 1000 := Nat.mul_le_mul h4 (by omega)
    rw [sizeLine_eq]
    omega
  · rw [if_neg (by omega), if_neg (by simp; omega)]
    refine ⟨?_, .str (repS a n.toNat), H, I.tok _, ⟨_, rfl⟩, hq⟩
    exact Nat.le_trans (Nat.le_of_eq (repS_len a n.toNat)) (Nat.le_trans (Nat.mul_le_mul (show n.toNat ≤ 1000 by omega) h4) (by rw [sizeLine_eq]; decide))
def gMulS : Dt → Dt → Option Dt := fun d e => match d, e with
  | .str a, .int n => if 2 ≤ n ∧ n ≤ 1000 ∧ 1 ≤ a.length ∧ a.length ≤ 1000 then some (.str (repS a n.toNat)) else none
  | _, _ => none
theorem s_mulS : BinS X K .Mult gMulS := by
  refine ⟨_, fun _ => op_mulS, fun ω ss σ H x y d e z Q rs bx by' hf q => ?_⟩
  unfold gMulS at hf
  split at hf
  · split at hf
    · rename_i hc
      cases hf
      have bx := bx.rp
      have by' := by'.rp
      cases bx
      cases by'
      exact ⟨_, _, rfl, rfl, hc.1, hc.2.1, hc.2.2.1, hc.2.2.2, q H _ (Same.refl _) (.str _)⟩
    · cases hf
  · cases hf
def gMulB : Dt → Dt → Option Dt := alt gMulA gMulS
theorem s_mulB (C : VC X k P w K mg base W) : BinS X K .Mult gMulB := (s_mulA C).or s_mulS

def fStart3 : List Dt → Option Dt
  | [.str x, .str y, .int i] => some (.bool (PySem.Txt.startswith3 x y i))
  | _ => none
theorem u_start3 : MuS X K "str.startswith" fStart3 := by
  refine ⟨_, fun _ => mt_startswith3, fun ω ss σ H x xs d ds z Q rs bx bs hf q => ?_⟩
  have bxr := bx.rp
  unfold fStart3 at hf
  split at hf
  · rename_i e0
    cases e0
    cases hf
    cases bxr
    obtain ⟨y, y2, rfl, b1, b2⟩ := bor2 bs
    have b1 := b1.rp
    have b2 := b2.rp
    cases b1
    cases b2
    exact ⟨_, _, _, rfl, rfl, q H _ (Same.refl _) (.bl _)⟩
  · cases hf
end
end VL

namespace VL
open PySem PySem.Spec L2
open PyProof.Rows hiding St
variable [WW]
section
variable {α β γ : Type} {a : Addr} {ss : SS}
theorem nt_fun_no : Nt fun _ => (.no : EO α) := fun _ _ => rfl
theorem nts_fun_no : NtS fun _ => .no := fun _ _ => rfl
theorem nt_or {m n : SS → EO α} (h : Nt m) (g : Nt n) : Nt fun ss => (m ss).or (n ss) := fun a ss => by
  show (m (reS a ss)).or (n (reS a ss)) = EO.re a ((m ss).or (n ss))
  rw [h a ss, g a ss]
  cases m ss <;> rfl
theorem nt_Fld {c f : Str} {m : SS → EO Opd} (h : Nt m) : Nt (mFld c f m) := nt_bind h fun o => nt_liftg fun a ss => by rw [get_re]
theorem nt_Make {c : Str} {g : Dt → List Dt → RsS} {m : SS → EO (List Dt)} (h : Nt m) : Nt (mMake c g m) := nt_bind h fun ds => by
  intro a ss
  dsimp only
  split <;> rfl
theorem nt_Meth {c x : Str} {pm : Dt → List Dt → List Dt} {g : List Dt → Res Dt} {mo : SS → EO Dt} {m : SS → EO (List Dt)} (h : Nt mo) (k : Nt m) : Nt (mMeth c x pm g mo m) := nt_bind h fun d => nt_if (nt_bind k fun ds => by
  intro a ss
  dsimp only
  split <;> rfl) nt_no
theorem nt_EqI {c : Str} {g : List Dt → Res Dt} {m n : SS → EO Dt} (h : Nt m) (k : Nt n) : Nt (mEqI c g m n) := nt_bind h fun d => nt_bind k fun e => nt_if (by
  intro a ss
  dsimp only
  split <;> rfl) nt_no
theorem nt_NeI {c : Str} {g : List Dt → Res Dt} {m n : SS → EO Dt} (h : Nt m) (k : Nt n) : Nt (mNeI c g m n) := nt_bind h fun d => nt_bind k fun e => nt_if (by
  intro a ss
  dsimp only
  split <;> rfl) nt_no
theorem nt_BinI {c : Str} {g : List Dt → Res Dt} {m n : SS → EO Dt} (h : Nt m) (k : Nt n) : Nt (mBinI c g m n) := nt_bind h fun d => nt_bind k fun e => nt_if (by
  intro a ss
  dsimp only
  split
  · split <;> rfl
  · rfl) nt_no
theorem nt_IsO {c : Str} {m : SS → EO Opd} (h : Nt m) : Nt (mIsO c m) := nt_bind h fun o => nt_liftg fun a ss => by rw [get_re]
theorem nt_DNil : Nt mDNil := fun _ _ => rfl
theorem nt_DCons {mk mv : SS → EO Dt} {n : SS → EO (List (Dt × Dt))} (h : Nt mk) (g : Nt mv) (k : Nt n) : Nt (mDCons mk mv n) := nt_bind h fun _ => nt_bind g fun _ => nt_bind k fun _ => nt_ok _
theorem nt_Disp {n : SS → EO (List (Dt × Dt))} (h : Nt n) : Nt (mDisp n) := nt_bind h fun ps => nt_if (nt_ok _) nt_no
theorem ownK_re {i : Nat} : ownK (reS a ss) i = ownK ss i := by
  unfold ownK
  rw [reS_get]
  rcases h : ss[i]? with _ | _ | s
  · rfl
  · rfl
  · cases s with
    | o d => cases d <;> rfl
    | _ => rfl
theorem ns_Put {i : Nat} {mk mv : SS → EO Dt} (h : Nt mk) (g : Nt mv) : NtS (mPut i mk mv) := nt_st g fun d => fun a ss1 => by
  rw [ownK_re]
  cases hs : ownK ss1 i with
  | none => rfl
  | some ds0 =>
    refine nt_st (m := mk) (f := fun k ss2 => match ownK ss2 i with
      | some ds => match fLook ds k with
        | some _ => if ds.length < sizeLine then .nx (ss2.set i (some (.o (.dict (putD ds k d))))) else .no
        | none => .no
      | none => .no) h (fun k => fun a s2 => ?_) a ss1
    dsimp only
    rw [ownK_re]
    cases ownK s2 i with
    | none => rfl
    | some ds =>
      dsimp only
      cases fLook ds k with
      | none => rfl
      | some _ =>
        dsimp only
        split
        · show SO.nx _ = SO.nx (reS a _)
          rw [reS_set]
          rfl
        · rfl
theorem nt_Pop {i : Nat} : Nt (mPop i) := fun a ss => by
  unfold mPop
  rw [ownL_re]
  cases ownL ss i with
  | none => rfl
  | some ds =>
    dsimp only
    cases ds.getLast? with
    | none => rfl
    | some d =>
      show EO.ok d _ = EO.ok d (reS a _)
      rw [reS_set]
      rfl
theorem ns_Extend {i : Nat} {m : SS → EO Dt} (h : Nt m) : NtS (mExtend i m) := fun a ss => by
  unfold mExtend
  rw [ownL_re]
  cases ownL ss i with
  | none => rfl
  | some ds0 =>
    refine nt_st (m := m) (f := fun d ss => match ownL ss i, d with
      | some ds, .list es => if ds.length + es.length ≤ sizeLine then .nx (ss.set i (some (.o (.list (ds ++ es))))) else .no
      | _, _ => .no) h (fun d => fun a s1 => ?_) a ss
    dsimp only
    rw [ownL_re]
    cases ownL s1 i with
    | none => cases d <;> rfl
    | some ds =>
      cases d with
      | list es =>
        dsimp only
        split
        · show SO.nx _ = SO.nx (reS a _)
          rw [reS_set]
          rfl
        · rfl
      | _ => rfl
theorem nt_NNil : Nt mNNil := fun _ _ => rfl
theorem nt_NCons {m : SS → EO NV} {n : SS → EO (List NV)} (h : Nt m) (g : Nt n) : Nt (mNCons m n) := nt_bind h fun _ => nt_bind g fun _ => nt_ok _
theorem setAll_re : ∀ (is : List Nat) (ns : List NV) (ss : SS), setAll (reS a ss) is ns = reS a (setAll ss is ns)
  | [], _, _ => rfl
  | _ :: _, [], _ => rfl
  | i :: is, n :: ns, ss => by
    show setAll ((reS a ss).set i (some n.sv)) is ns = reS a (setAll (ss.set i (some n.sv)) is ns)
    rw [← setAll_re is ns, reS_set]
    show _ = setAll ((reS a ss).set i (some (reV a n.sv))) is ns
    rw [sv_re]
theorem ns_ParT {is : List Nat} {m : SS → EO (List NV)} (h : Nt m) : NtS (mParT is m) := nt_st h fun ns => fun a ss => by
  rw [reS_len]
  split
  · show SO.nx _ = SO.nx (reS a _)
    rw [setAll_re]
  · rfl
theorem ns_SetF {i : Nat} {c f : Str} {m : SS → EO Dt} (h : Nt m) : NtS (mSetF i c f m) := nt_st h fun z => fun a ss => by
  rw [reS_get]
  rcases hs : ss[i]? with _ | _ | s
  · rfl
  · rfl
  · cases s with
    | se b d =>
      dsimp only [Option.map, reV]
      cases fPut c f z d with
      | none => rfl
      | some d2 =>
        show SO.nx _ = SO.nx (reS a _)
        rw [reS_set]
        rfl
    | _ => rfl
theorem nt_dcGo {vs : List Nat} {g : Dt → SS → Option SS} {mt : SS → EO Bool} {mk mv : SS → EO Dt} (h1 : NtG g) (h2 : Nt mt) (h3 : Nt mk) (h4 : Nt mv) : ∀ (ds : List Dt) (acc : List (Dt × Dt)), Nt fun ss => dcGo vs g mt mk mv ds ss acc
  | [], acc => fun a ss => rfl
  | d :: ds, acc => fun a ss => by
    show dcGo vs g mt mk mv (d :: ds) (reS a ss) acc = EO.re a (dcGo vs g mt mk mv (d :: ds) ss acc)
    rw [dcGo, dcGo, h1 a d ss]
    cases g d ss with
    | none => rfl
    | some s1 =>
      refine nt_bind (m := fun ss => (mt ss).calm) (f := fun z ss2 => if z = true then (mk ss2).calm.bind fun k ss3 => (mv ss3).calm.bind fun y ss4 => if key1 k = true ∧ acc.length < sizeLine then dcGo vs g mt mk mv ds (wipeS ss4 vs) (putD acc k y) else .no else dcGo vs g mt mk mv ds (wipeS ss2 vs) acc) (nt_calm h2) (fun z => nt_if (nt_bind (m := fun ss => (mk ss).calm) (nt_calm h3) fun k => nt_bind (m := fun ss => (mv ss).calm) (nt_calm h4) fun y => nt_if (fun a s3 => ?_) nt_no) fun a s3 => ?_) a s1
      · show dcGo vs g mt mk mv ds (wipeS (reS a s3) vs) (putD acc k y) = _
        rw [wipe_re]
        exact nt_dcGo h1 h2 h3 h4 ds (putD acc k y) a _
      · show dcGo vs g mt mk mv ds (wipeS (reS a s3) vs) acc = _
        rw [wipe_re]
        exact nt_dcGo h1 h2 h3 h4 ds acc a _
theorem nt_Dc {m : SS → EO (List Dt)} {vs : List Nat} {g : Dt → SS → Option SS} {mt : SS → EO Bool} {mk mv : SS → EO Dt} (h : Nt m) (h1 : NtG g) (h2 : Nt mt) (h3 : Nt mk) (h4 : Nt mv) : Nt (mDc m vs g mt mk mv) := fun a ss => by
  unfold mDc
  rw [h a ss]
  cases m ss with
  | exc c fs s => rfl
  | no => rfl
  | ok items s1 =>
    show (dcGo vs g mt mk mv items (wipeS (reS a s1) vs) []).bind (fun acc ss2 => EO.ok (PyData.dict acc) (restS (reS a s1) ss2 vs)) = EO.re a ((dcGo vs g mt mk mv items (wipeS s1 vs) []).bind fun acc ss2 => EO.ok (PyData.dict acc) (restS s1 ss2 vs))
    have e : dcGo vs g mt mk mv items (reS a (wipeS s1 vs)) [] = (dcGo vs g mt mk mv items (wipeS s1 vs) []).re a := nt_dcGo h1 h2 h3 h4 items [] a (wipeS s1 vs)
    rw [wipe_re, e]
    cases dcGo vs g mt mk mv items (wipeS s1 vs) [] with
    | exc c fs s => rfl
    | no => rfl
    | ok acc s2 =>
      show EO.ok (PyData.dict acc) (restS (reS a s1) (reS a s2) vs) = EO.ok (PyData.dict acc) (reS a (restS s1 s2 vs))
      rw [rest_re]
end
end VL

namespace VL
open PySem PySem.Spec L2
open PyProof.Rows hiding St
variable [WW]
def tw12 {α : Type} (us ws : List α) : List α := match us, ws with
  | [s], [u, v] => [s, u, v]
  | _, _ => []
def tw21 {α : Type} (us ws : List α) : List α := match us, ws with
  | [s], [u, v] => [s, v, u]
  | _, _ => []
section
variable {K : PySem.W.Frag} {x qn : Str} {st : Stmt}
theorem kbm12 {f : Addr} {fd : FuncData} {o q r : Str} (F : Fun K x qn st f fd) (h : ∀ (kV doc pm : Value) (an : Option Addr) (cdv ct s u v : Value), bindArgs (PySem.W.fnOf x qn (defArgs st) (defBody st) (defScope st) .none kV doc pm an cdv ct) ⟨[s], [(q, u), (r, v)]⟩ = pure [(o, s), (q, u), (r, v)]) : KBinds K fd [o, q, r] [q, r] tw12 tw12 := by
  obtain ⟨oc, od, kV, doc, pm, an, cdv, ct, osl, rfl, lk, hcd⟩ := F.ex
  refine ⟨fun s us ws _ hl => ?_, fun r1 r2 => ?_⟩
  · match us, ws, hl with
    | [s0], [u, v], _ => exact .of_eq (h kV doc pm an cdv ct s0 u v)
  · cases r1 with
    | nil => exact .nil
    | cons a r1 =>
      cases r1 with
      | cons a2 r1 => exact .nil
      | nil =>
        cases r2 with
        | nil => exact .nil
        | cons b r2 =>
          cases r2 with
          | nil => exact .nil
          | cons c r2 =>
            cases r2 with
            | nil => exact .cons a (.cons b (.cons c .nil))
            | cons d r2 => exact .nil
theorem kbm21 {f : Addr} {fd : FuncData} {o q r : Str} (F : Fun K x qn st f fd) (h : ∀ (kV doc pm : Value) (an : Option Addr) (cdv ct s u v : Value), bindArgs (PySem.W.fnOf x qn (defArgs st) (defBody st) (defScope st) .none kV doc pm an cdv ct) ⟨[s], [(r, u), (q, v)]⟩ = pure [(o, s), (q, v), (r, u)]) : KBinds K fd [o, q, r] [r, q] tw21 tw21 := by
  obtain ⟨oc, od, kV, doc, pm, an, cdv, ct, osl, rfl, lk, hcd⟩ := F.ex
  refine ⟨fun s us ws _ hl => ?_, fun r1 r2 => ?_⟩
  · match us, ws, hl with
    | [s0], [u, v], _ => exact .of_eq (h kV doc pm an cdv ct s0 u v)
  · cases r1 with
    | nil => exact .nil
    | cons a r1 =>
      cases r1 with
      | cons a2 r1 => exact .nil
      | nil =>
        cases r2 with
        | nil => exact .nil
        | cons b r2 =>
          cases r2 with
          | nil => exact .nil
          | cons c r2 =>
            cases r2 with
            | nil => exact .cons a (.cons c (.cons b .nil))
            | cons d r2 => exact .nil
theorem pmm12 : ∀ (F : Hp) (v : V) (d : Dt) (vs : List V) (ds : List Dt), Rp K F v d → RpA K F vs ds → ds.length = 2 → (tw12 [v] vs).length = 3 ∧ RpA K F (tw12 [v] vs) (tw12 [d] ds) := fun F v d vs ds h0 h l => by
  cases h with
  | nil => cases l
  | cons h1 h2 =>
    cases h2 with
    | nil => simp at l
    | cons h2 h3 =>
      cases h3 with
      | nil => exact ⟨rfl, .cons h0 (.cons h1 (.one h2))⟩
      | cons h3 h4 => simp at l
theorem pmm21 : ∀ (F : Hp) (v : V) (d : Dt) (vs : List V) (ds : List Dt), Rp K F v d → RpA K F vs ds → ds.length = 2 → (tw21 [v] vs).length = 3 ∧ RpA K F (tw21 [v] vs) (tw21 [d] ds) := fun F v d vs ds h0 h l => by
  cases h with
  | nil => cases l
  | cons h1 h2 =>
    cases h2 with
    | nil => simp at l
    | cons h2 h3 =>
      cases h3 with
      | nil => exact ⟨rfl, .cons h0 (.cons h2 (.one h1))⟩
      | cons h3 h4 => simp at l
end
end VL

namespace VL
open PySem PySem.Spec L2
open PyProof.Rows hiding St
section
variable {α : Type} {g : Dt → SS → Option SS} {n : SS → SO} {c : SS → EO Bool}
theorem forGo_rel (R : α → SS → Prop) (f : α → Dt → α) : ∀ (items : List Dt), (∀ a d ss, d ∈ items → R a ss → ∃ ss1 ss2, g d ss = some ss1 ∧ (n ss1 = .nx ss2 ∨ n ss1 = .ct ss2) ∧ R (f a d) ss2) →
    ∀ a ss, R a ss → ∃ ss', forGo g n items ss = .nx ss' ∧ R (items.foldl f a) ss'
  | [], _, a, ss, r => ⟨ss, rfl, r⟩
  | d :: ds, h, a, ss, r => by
    obtain ⟨ss1, ss2, e1, e2, r2⟩ := h a d ss (List.mem_cons_self ..) r
    obtain ⟨ss', e3, r3⟩ := forGo_rel R f ds (fun a d ss hd => h a d ss (List.mem_cons_of_mem _ hd)) _ _ r2
    refine ⟨ss', ?_, r3⟩
    rw [forGo, e1]
    dsimp only
    rcases e2 with e2 | e2 <;> rw [e2] <;> exact e3
theorem forGo_ix {β : Type} (enc : β → Dt) (R : Nat → SS → Prop) (items : List β) (h : ∀ k ss (hk : k < items.length), R k ss → ∃ ss1 ss2, g (enc items[k]) ss = some ss1 ∧ (n ss1 = .nx ss2 ∨ n ss1 = .ct ss2) ∧ R (k + 1) ss2) :
    ∀ ss, R 0 ss → ∃ ss', forGo g n (items.map enc) ss = .nx ss' ∧ R items.length ss' := by
  have key : ∀ (m k : Nat) ss, k + m = items.length → R k ss → ∃ ss', forGo g n ((items.drop k).map enc) ss = .nx ss' ∧ R items.length ss' := by
    intro m
    induction m with
    | zero =>
      intro k ss hk r
      rw [List.drop_of_length_le (by omega)]
      have : k = items.length := by omega
      subst this
      exact ⟨ss, rfl, r⟩
    | succ m ih =>
      intro k ss hk r
      have hlt : k < items.length := by omega
      obtain ⟨ss1, ss2, e1, e2, r2⟩ := h k ss hlt r
      obtain ⟨ss', e3, r3⟩ := ih (k + 1) ss2 (by omega) r2
      refine ⟨ss', ?_, r3⟩
      rw [List.drop_eq_getElem_cons hlt, List.map_cons, forGo, e1]
      dsimp only
      rcases e2 with e2 | e2 <;> rw [e2] <;> exact e3
  intro ss r
  exact key items.length 0 ss (by omega) r
theorem whileN_more : ∀ (f : Nat) (ss : SS), whileN c n f ss ≠ .no → whileN c n (f + 1) ss = whileN c n f ss
  | 0, ss, h => absurd rfl h
  | f + 1, ss, h => by
    rw [whileN] at h ⊢
    rw [show whileN c n (f + 1) ss = _ from by rw [whileN]]
    cases hc : c ss with
    | no => rfl
    | exc x fs s => rfl
    | ok z ss1 =>
      rw [hc] at h
      dsimp only [EO.st] at h ⊢
      cases z with
      | false => rfl
      | true =>
        simp only [if_true] at h ⊢
        cases hn : n ss1 with
        | nx ss2 => rw [hn] at h; exact whileN_more f ss2 h
        | ct ss2 => rw [hn] at h; exact whileN_more f ss2 h
        | _ => rfl
theorem whileN_add {f : Nat} {ss : SS} (h : whileN c n f ss ≠ .no) : ∀ k, whileN c n (f + k) ss = whileN c n f ss
  | 0 => rfl
  | k + 1 => by
    rw [← Nat.add_assoc, whileN_more _ _ (by rw [whileN_add h k]; exact h), whileN_add h k]
theorem mWhile_of {f : Nat} {ss : SS} {r : SO} (h : whileN c n f ss = r) (hr : r ≠ .no) : mWhile c n ss = r := by
  have hx : ∃ f, whileN c n f ss ≠ .no := ⟨f, by rw [h]; exact hr⟩
  unfold mWhile
  rw [dif_pos hx]
  have h1 := hx.choose_spec
  rw [← whileN_add h1 f, Nat.add_comm, whileN_add (by rw [h]; exact hr) hx.choose, h]
/-- a loop that ends by a measure -/
theorem mWhile_rel (R : α → SS → Prop) (step : α → Option α) (μ : α → Nat)
    (h : ∀ a ss, R a ss → match step a with
      | some a' => μ a' < μ a ∧ ∃ ss1 ss2, c ss = .ok true ss1 ∧ (n ss1 = .nx ss2 ∨ n ss1 = .ct ss2) ∧ R a' ss2
      | none => ∃ ss1, c ss = .ok false ss1 ∧ R a ss1) : ∀ a ss, R a ss → ∃ a' ss', mWhile c n ss = .nx ss' ∧ R a' ss' ∧ step a' = none := by
  have key : ∀ (k : Nat) (a : α) (ss : SS), μ a ≤ k → R a ss → ∃ f a' ss', whileN c n f ss = .nx ss' ∧ R a' ss' ∧ step a' = none := by
    intro k
    induction k with
    | zero =>
      intro a ss hk r
      have hh := h a ss r
      cases hs : step a with
      | some a' =>
        rw [hs] at hh
        exact absurd hh.1 (by omega)
      | none =>
        rw [hs] at hh
        obtain ⟨ss1, e, r1⟩ := hh
        exact ⟨1, a, ss1, by rw [whileN, e]; rfl, r1, hs⟩
    | succ k ih =>
      intro a ss hk r
      have hh := h a ss r
      cases hs : step a with
      | some a' =>
        rw [hs] at hh
        obtain ⟨hm, ss1, ss2, e, en, r2⟩ := hh
        obtain ⟨f, a2, ss', e3, r3, s3⟩ := ih a' ss2 (by omega) r2
        refine ⟨f + 1, a2, ss', ?_, r3, s3⟩
        rw [whileN, e]
        dsimp only [EO.st]
        rw [if_pos rfl]
        rcases en with en | en <;> rw [en] <;> exact e3
      | none =>
        rw [hs] at hh
        obtain ⟨ss1, e, r1⟩ := hh
        exact ⟨1, a, ss1, by rw [whileN, e]; rfl, r1, hs⟩
  intro a ss r
  obtain ⟨f, a', ss', e, r', s'⟩ := key (μ a) a ss (Nat.le_refl _) r
  exact ⟨a', ss', mWhile_of e (by intro z; cases z), r', s'⟩
theorem lc_enc {β : Type} {vs : List Nat} {mt : SS → EO Bool} {me : SS → EO Dt} {s0 : SS} (enc : β → Dt) (s1 : β → SS) (p : β → Bool) (f : β → Dt) : ∀ (items : List β) (acc : List Dt), (∀ b ∈ items, g (enc b) s0 = some (s1 b)) → (∀ b ∈ items, mt (s1 b) = .ok (p b) (s1 b)) → (∀ b ∈ items, p b = true → me (s1 b) = .ok (f b) (s1 b)) →
    (∀ b ∈ items, wipeS (s1 b) vs = s0) → acc.length + items.length ≤ sizeLine → lcGo vs g mt me (items.map enc) s0 acc = .ok (acc ++ (items.filter p).map f) s0
  | [], acc, _, _, _, _, _ => by simp [lcGo]
  | d :: items, acc, hg, ht, he, hw, hl => by
    have m := List.mem_cons_self (a := d) (l := items)
    have r : ∀ e ∈ items, e ∈ d :: items := fun e h => List.mem_cons_of_mem _ h
    rw [List.length_cons] at hl
    rw [List.map_cons, lcGo, hg d m]
    simp only [ht d m, EO.calm, EO.bind]
    cases hp : p d with
    | false =>
      simp only [Bool.false_eq_true, if_false, hw d m]
      rw [lc_enc enc s1 p f items acc (fun e h => hg e (r e h)) (fun e h => ht e (r e h)) (fun e h => he e (r e h)) (fun e h => hw e (r e h)) (by omega)]
      simp [hp]
    | true =>
      simp only [if_true, he d m hp, hw d m]
      rw [if_pos (by omega), lc_enc enc s1 p f items (acc ++ [f d]) (fun e h => hg e (r e h)) (fun e h => ht e (r e h)) (fun e h => he e (r e h)) (fun e h => hw e (r e h)) (by rw [List.length_append, List.length_singleton]; omega)]
      simp [hp]
theorem mLc_enc {β : Type} {m : SS → EO (List Dt)} {vs : List Nat} {mt : SS → EO Bool} {me : SS → EO Dt} {ss ss1 s0 ss2 : SS} (enc : β → Dt) (s1 : β → SS) (p : β → Bool) (f : β → Dt) (items : List β) (hi : m ss = .ok (items.map enc) ss1) (h0 : wipeS ss1 vs = s0) (hr : restS ss1 s0 vs = ss2) (hg : ∀ b ∈ items, g (enc b) s0 = some (s1 b)) (ht : ∀ b ∈ items, mt (s1 b) = .ok (p b) (s1 b)) (he : ∀ b ∈ items, p b = true → me (s1 b) = .ok (f b) (s1 b))
    (hw : ∀ b ∈ items, wipeS (s1 b) vs = s0) (hl : items.length ≤ sizeLine) : mLc m vs g mt me ss = .ok (.list ((items.filter p).map f)) ss2 := by
  unfold mLc
  rw [hi]
  simp only [EO.bind, h0]
  rw [lc_enc enc s1 p f items [] hg ht he hw (by simpa using hl)]
  simp [hr]
end
end VL

namespace VL
section
variable {P : Type} [DecidableEq P]
inductive Reach (B : List P) (N : P → List P) : P → Prop
  | base {b : P} : b ∈ B → Reach B N b
  | step {p q : P} : Reach B N p → q ∈ N p → Reach B N q
/-- last in, first out -/
def stepS (N : P → List P) (a : List P × List P) : Option (List P × List P) := match a.2.getLast? with
  | none => none
  | some p => if p ∈ a.1 then some (a.1, a.2.dropLast) else some (a.1 ++ [p], a.2.dropLast ++ N p)
/-- first in, first out, by an index -/
def stepQ (N : P → List P) (a : List P × List P × Nat) : Option (List P × List P × Nat) := match a.2.1[a.2.2]? with
  | none => none
  | some p => if p ∈ a.1 then some (a.1, a.2.1, a.2.2 + 1) else some (a.1 ++ [p], a.2.1 ++ N p, a.2.2 + 1)
structure Fin' (B : List P) (N : P → List P) (U : List P) (M : Nat) : Prop where
  b : ∀ p ∈ B, p ∈ U
  n : ∀ p ∈ U, ∀ q ∈ N p, q ∈ U
  m : ∀ p ∈ U, (N p).length ≤ M
variable {B : List P} {N : P → List P} {U : List P} {M : Nat}
theorem Fin'.reach (F : Fin' B N U M) {p : P} (h : Reach B N p) : p ∈ U := by
  induction h with
  | base h => exact F.b _ h
  | step _ hq ih => exact F.n _ ih _ hq
/-- met, and still to come -/
structure SInv (B : List P) (N : P → List P) (U : List P) (M : Nat) (met todo : List P) (len : Nat) : Prop where
  r1 : ∀ p ∈ met, Reach B N p
  r2 : ∀ p ∈ todo, Reach B N p
  c1 : ∀ p ∈ B, p ∈ met ∨ p ∈ todo
  c2 : ∀ p ∈ met, ∀ q ∈ N p, q ∈ met ∨ q ∈ todo
  nd : met.Nodup
  ln : len ≤ B.length + met.length * M
def left (U met : List P) : Nat := (U.filter fun p => decide (p ∉ met)).length
theorem left_less {met : List P} {p : P} (hU : p ∈ U) (hp : p ∉ met) : left U (met ++ [p]) < left U met := by
  unfold left
  have sub : U.filter (fun q => decide (q ∉ met ++ [p])) = (U.filter fun q => decide (q ∉ met)).filter fun q => decide (q ≠ p) := by
    rw [List.filter_filter]
    refine List.filter_congr fun q _ => ?_
    by_cases h1 : q ∈ met <;> by_cases h2 : q = p <;> simp [h1, h2]
  rw [sub]
  have hm : p ∈ U.filter fun q => decide (q ∉ met) := List.mem_filter.mpr ⟨hU, by simpa using hp⟩
  generalize U.filter (fun q => decide (q ∉ met)) = V at hm
  rcases Nat.lt_or_ge (V.filter fun q => decide (q ≠ p)).length V.length with h | h
  · exact h
  · have e := List.filter_eq_self.mp ((List.filter_sublist (p := fun q => decide (q ≠ p)) (l := V)).eq_of_length_le h)
    have := e p hm
    simp at this
theorem SInv.len_le (F : Fin' B N U M) {met todo : List P} {len : Nat} (I : SInv B N U M met todo len) : met.length ≤ U.length := by
  have sub : met ⊆ U := fun p hp => F.reach (I.r1 p hp)
  have key : ∀ (met U : List P), met.Nodup → met ⊆ U → met.length ≤ U.length := by
    intro met
    induction met with
    | nil => intro U _ _; exact Nat.zero_le _
    | cons p met ih =>
      intro U nd sub
      have h := ih (U.erase p) (List.nodup_cons.mp nd).2 (fun q hq => (List.mem_erase_of_ne (fun e => by subst e; exact (List.nodup_cons.mp nd).1 hq)).mpr (sub (List.mem_cons_of_mem _ hq)))
      rw [List.length_erase_of_mem (sub (List.mem_cons_self ..))] at h
      have : 0 < U.length := List.length_pos_of_mem (sub (List.mem_cons_self ..))
      rw [List.length_cons]
      omega
  exact key met U I.nd sub
theorem SInv.start : SInv B N U M [] B B.length := ⟨fun _ h => (by cases h), fun p h => .base h, fun p h => .inr h, fun _ h => (by cases h), List.nodup_nil, by simp⟩
theorem or_skip {met todo : List P} {p q : P} (o : q ∈ met ∨ q ∈ p :: todo) (h : p ∈ met) : q ∈ met ∨ q ∈ todo := by
  rcases o with o | o
  · exact .inl o
  · rcases List.mem_cons.mp o with rfl | o
    · exact .inl h
    · exact .inr o
theorem SInv.skip {met todo : List P} {len : Nat} {p : P} (I : SInv B N U M met (p :: todo) len) (h : p ∈ met) (len' : Nat) (hl : len' ≤ len) : SInv B N U M met todo len' where
  r1 := I.r1
  r2 := fun q hq => I.r2 q (List.mem_cons_of_mem _ hq)
  c1 := fun q hq => or_skip (I.c1 q hq) h
  c2 := fun q hq z hz => or_skip (I.c2 q hq z hz) h
  nd := I.nd
  ln := Nat.le_trans hl I.ln
theorem SInv.take (F : Fin' B N U M) {met todo : List P} {len : Nat} {p : P} (I : SInv B N U M met (p :: todo) len) (h : p ∉ met) {todo' : List P} (ht : ∀ q, q ∈ todo' ↔ q ∈ todo ∨ q ∈ N p) (len' : Nat) (hl : len' ≤ len + (N p).length) : SInv B N U M (met ++ [p]) todo' len' where
  r1 := fun q hq => by
    rcases List.mem_append.mp hq with hq | hq
    · exact I.r1 q hq
    · rw [List.mem_singleton.mp hq]
      exact I.r2 p (List.mem_cons_self ..)
  r2 := fun q hq => by
    rcases (ht q).mp hq with hq | hq
    · exact I.r2 q (List.mem_cons_of_mem _ hq)
    · exact .step (I.r2 p (List.mem_cons_self ..)) hq
  c1 := fun q hq => by
    rcases I.c1 q hq with o | o
    · exact .inl (List.mem_append_left _ o)
    · rcases List.mem_cons.mp o with rfl | o
      · exact .inl (by simp)
      · exact .inr ((ht q).mpr (.inl o))
  c2 := fun q hq z hz => by
    rcases List.mem_append.mp hq with hq | hq
    · rcases I.c2 q hq z hz with o | o
      · exact .inl (List.mem_append_left _ o)
      · rcases List.mem_cons.mp o with rfl | o
        · exact .inl (by simp)
        · exact .inr ((ht z).mpr (.inl o))
    · rw [List.mem_singleton.mp hq] at hz
      exact .inr ((ht z).mpr (.inr hz))
  nd := List.nodup_append.mpr ⟨I.nd, by simp, fun a ha b hb e => by
    rw [List.mem_singleton.mp hb] at e
    exact h (e ▸ ha)⟩
  ln := by
    have h1 := I.ln
    have h2 := F.m p (F.reach (I.r2 p (List.mem_cons_self ..)))
    rw [List.length_append, List.length_singleton, Nat.add_mul, Nat.one_mul]
    omega
/-- nothing is left to do: all that can be reached has been met -/
theorem SInv.done {met : List P} {len : Nat} (I : SInv B N U M met [] len) (p : P) : p ∈ met ↔ Reach B N p := by
  refine ⟨I.r1 p, fun h => ?_⟩
  induction h with
  | base h => exact (I.c1 _ h).resolve_right (by simp)
  | step _ hq ih => exact (I.c2 _ ih _ hq).resolve_right (by simp)
/-- the stack's turn -/
def invS (B : List P) (N : P → List P) (U : List P) (M : Nat) (a : List P × List P) : Prop := ∃ todo : List P, (∀ q, q ∈ todo ↔ q ∈ a.2) ∧ SInv B N U M a.1 todo a.2.length
theorem last_split {l : List P} {p : P} (h : l.getLast? = some p) : l = l.dropLast ++ [p] := by
  rw [List.getLast?_eq_some_iff] at h
  obtain ⟨ys, rfl⟩ := h
  simp
theorem SInv.perm {met t t' : List P} {len : Nat} (I : SInv B N U M met t len) (h : ∀ q, q ∈ t' ↔ q ∈ t) : SInv B N U M met t' len where
  r1 := I.r1
  r2 := fun q hq => I.r2 q ((h q).mp hq)
  c1 := fun q hq => (I.c1 q hq).imp_right (h q).mpr
  c2 := fun q hq z hz => (I.c2 q hq z hz).imp_right (h z).mpr
  nd := I.nd
  ln := I.ln
theorem stepS_inv (F : Fin' B N U M) {met wait : List P} (I : SInv B N U M met wait wait.length) {p : P} (h : wait.getLast? = some p) : if p ∈ met then SInv B N U M met wait.dropLast wait.dropLast.length else SInv B N U M (met ++ [p]) (wait.dropLast ++ N p) (wait.dropLast ++ N p).length := by
  have e := last_split h
  have I2 : SInv B N U M met (p :: wait.dropLast) wait.length := I.perm fun q => by
    conv => rhs; rw [e]
    simp [or_comm]
  have hl : wait.length = wait.dropLast.length + 1 := by
    conv => lhs; rw [e]
    simp
  split
  · rename_i hm
    exact I2.skip hm _ (by omega)
  · rename_i hm
    exact I2.take F hm (fun q => List.mem_append) _ (by rw [List.length_append]; omega)
def muS (U : List P) (M : Nat) (a : List P × List P) : Nat := left U a.1 * (M + 1) + a.2.length
theorem stepS_mu (F : Fin' B N U M) {met wait : List P} (I : SInv B N U M met wait wait.length) {p : P} (h : wait.getLast? = some p) : (p ∈ met → muS U M (met, wait.dropLast) < muS U M (met, wait)) ∧ (p ∉ met → muS U M (met ++ [p], wait.dropLast ++ N p) < muS U M (met, wait)) := by
  have e := last_split h
  have hl : wait.length = wait.dropLast.length + 1 := by
    conv => lhs; rw [e]
    simp
  have hp : p ∈ wait := by rw [e]; simp
  refine ⟨fun _ => ?_, fun hm => ?_⟩
  · show left U met * (M + 1) + wait.dropLast.length < left U met * (M + 1) + wait.length
    omega
  · have h1 := left_less (F.reach (I.r2 p hp)) hm
    have h2 := F.m p (F.reach (I.r2 p hp))
    show left U (met ++ [p]) * (M + 1) + (wait.dropLast ++ N p).length < left U met * (M + 1) + wait.length
    rw [List.length_append]
    have h3 : (left U (met ++ [p]) + 1) * (M + 1) ≤ left U met * (M + 1) := Nat.mul_le_mul_right _ h1
    rw [Nat.add_mul, Nat.one_mul] at h3
    omega
/-- the queue's turn -/
theorem stepQ_inv (F : Fin' B N U M) {met wait : List P} {k : Nat} (I : SInv B N U M met (wait.drop k) wait.length) {p : P} (h : wait[k]? = some p) : if p ∈ met then SInv B N U M met (wait.drop (k + 1)) wait.length else SInv B N U M (met ++ [p]) ((wait ++ N p).drop (k + 1)) (wait ++ N p).length := by
  obtain ⟨hk, e⟩ := List.getElem?_eq_some_iff.mp h
  have e2 : wait.drop k = p :: wait.drop (k + 1) := by rw [List.drop_eq_getElem_cons hk, e]
  rw [e2] at I
  split
  · rename_i hm
    exact I.skip hm _ (Nat.le_refl _)
  · rename_i hm
    refine I.take F hm (fun q => ?_) _ (by rw [List.length_append]; exact Nat.le_refl _)
    rw [List.drop_append_of_le_length (by omega)]
    exact List.mem_append
def muQ (U : List P) (M : Nat) (a : List P × List P × Nat) : Nat := left U a.1 * (M + 1) + (a.2.1.length - a.2.2)
theorem stepQ_mu (F : Fin' B N U M) {met wait : List P} {k : Nat} (I : SInv B N U M met (wait.drop k) wait.length) {p : P} (h : wait[k]? = some p) : (p ∈ met → muQ U M (met, wait, k + 1) < muQ U M (met, wait, k)) ∧ (p ∉ met → muQ U M (met ++ [p], wait ++ N p, k + 1) < muQ U M (met, wait, k)) := by
  obtain ⟨hk, e⟩ := List.getElem?_eq_some_iff.mp h
  have hp : p ∈ wait.drop k := by rw [List.drop_eq_getElem_cons hk, e]; exact List.mem_cons_self ..
  refine ⟨fun _ => ?_, fun hm => ?_⟩
  · show left U met * (M + 1) + (wait.length - (k + 1)) < left U met * (M + 1) + (wait.length - k)
    omega
  · have h1 := left_less (F.reach (I.r2 p hp)) hm
    have h2 := F.m p (F.reach (I.r2 p hp))
    show left U (met ++ [p]) * (M + 1) + ((wait ++ N p).length - (k + 1)) < left U met * (M + 1) + (wait.length - k)
    rw [List.length_append]
    have h3 : (left U (met ++ [p]) + 1) * (M + 1) ≤ left U met * (M + 1) := Nat.mul_le_mul_right _ h1
    rw [Nat.add_mul, Nat.one_mul] at h3
    omega
end
end VL

namespace VL
open PySem PySem.Spec L2
open PyProof.Rows hiding St
variable [WW]
structure Mv where
  p : Nat
  u : Str
  v : Str
  q : Nat
  deriving DecidableEq
abbrev Pl := Nat × Nat × Nat
def mvD (m : Mv) : Dt := .tuple [.int m.p, .str m.u, .str m.v, .int m.q]
def plD (p : Pl) : Dt := .tuple [.int p.1, .int p.2.1, .int p.2.2]
def natsD (l : List Nat) : Dt := .tuple (l.map fun s => .int (s : Nat))
/-- u stands in x at i -/
def fits (x u : Str) (i : Nat) : Bool := decide ((x.cps.toList.drop i).take u.length = u.cps.toList)
def nx1 (x y : Str) (p : Pl) (m : Mv) : Option Pl := if m.p = p.1 ∧ fits x m.u p.2.1 = true ∧ fits y m.v p.2.2 = true then some (m.q, p.2.1 + m.u.length, p.2.2 + m.v.length) else none
def nxs (mv : List Mv) (x y : Str) (p : Pl) : List Pl := mv.filterMap (nx1 x y p)
theorem len_cps (x : Str) : x.cps.toList.length = x.length := by simp [Str.length]
theorem fits_le {x u : Str} {i : Nat} (h : fits x u i = true) (hi : i ≤ x.length) : i + u.length ≤ x.length := by
  have e := of_decide_eq_true h
  have l := congrArg List.length e
  rw [List.length_take, List.length_drop, len_cps, len_cps] at l
  omega
theorem start3 {x u : Str} {i : Nat} (hi : i ≤ x.length) : PySem.Txt.startswith3 x u (i : Int) = fits x u i := by
  have e1 : fromIndex x.length (i : Int) = i := by
    unfold fromIndex
    rw [if_neg (by omega)]
    omega
  unfold PySem.Txt.startswith3
  rw [e1, Bool.eq_iff_iff]
  unfold Builtin.Str.subAt fits
  simp only [Bool.and_eq_true, decide_eq_true_eq, beq_iff_eq]
  have ex : (x.cps.extract i (i + u.length)).toList = (x.cps.toList.drop i).take u.length := by
    rw [Array.toList_extract, List.extract_eq_drop_take]
    congr 1
    omega
  constructor
  · rintro ⟨h1, h2⟩
    rw [← ex, h2]
  · intro h
    refine ⟨?_, ?_⟩
    · exact fits_le (decide_eq_true h) hi
    · rw [← Array.toList_inj, ex, h]
abbrev fpN : Nat := 12
abbrev fpBody : SS → SO := (mIfS (mAnd (mCmp fEqA (mBor 8) (mBor 5)) (mAnd (toB (mMn fStart3 (mBor 2) (mConsB (mBor 9) (mConsB (mBor 6) mNilB)))) (toB (mMn fStart3 (mBor 3) (mConsB (mBor 10) (mConsB (mBor 7) mNilB)))))) (mAppend 4 (mTup (mCons (mVar 11) (mCons (mBin gAdd (mBor 6) (mB (mBu fLen (mConsB (mBor 9) mNilB)))) (mCons (mBin gAdd (mBor 7) (mB (mBu fLen (mConsB (mBor 10) mNilB)))) mNil))))) .nx)
abbrev fpM : SS → SO := (mSeq (mAsg (gTupV 3 (gConsV (gNm 5) (gConsV (gNm 6) (gConsV (gNm 7) gNilV)))) (mVar 1))
    (mSeq (mSet 4 (mOw (mLst mNil)))
    (mSeq (mFor (mItems (mFld "Pacer" "moves" (mBor 0))) (gTupV 4 (gConsV (gNm 8) (gConsV (gNm 9) (gConsV (gNm 10) (gConsV (gNm 11) gNilV))))) fpBody)
    (mRet (mVar 4)))))
/-- an instance of Pacer -/
def pcD (n : Nat) (b : List Nat) (mv : List Mv) (e : List Nat) : Dt := ins "Pacer" [.str "size", .str "begins", .str "moves", .str "ends"] [.int n, natsD b, .tuple (mv.map mvD), natsD e]
theorem eqN (a b : Nat) : fEqA (.int (a : Nat)) (.int (b : Nat)) = some (decide (a = b)) := by
  rw [eqA_int]
  congr 1
  rw [decide_eq_decide]
  omega
theorem fp_step {P : Dt} {h : Dt} {x y : Str} {acc : List Dt} {s i j : Nat} {m : Mv} (hx : x.length ≤ 1000) (hy : y.length ≤ 1000) (hu : m.u.length ≤ 1000) (hv : m.v.length ≤ 1000) (hi : i ≤ x.length) (hj : j ≤ y.length) (ha : acc.length < sizeLine) :
    fpBody [some (.v P), some (.v h), some (.v (.str x)), some (.v (.str y)), some (.o (.list acc)), some (.v (.int s)), some (.v (.int i)), some (.v (.int j)), some (.v (.int m.p)), some (.v (.str m.u)), some (.v (.str m.v)), some (.v (.int m.q))] =
    .nx [some (.v P), some (.v h), some (.v (.str x)), some (.v (.str y)), some (.o (.list (match nx1 x y (s, i, j) m with | some p => acc ++ [plD p] | none => acc))), some (.v (.int s)), some (.v (.int i)), some (.v (.int j)), some (.v (.int m.p)), some (.v (.str m.u)), some (.v (.str m.v)), some (.v (.int m.q))] := by
  have su : m.u.length ≤ sizeLine := Nat.le_trans hu (by decide)
  have sv : m.v.length ≤ sizeLine := Nat.le_trans hv (by decide)
  have e1 : fStart3 [.str x, .str m.u, .int (i : Int)] = some (.bool (fits x m.u i)) := by
    show some (PyData.bool _) = _
    rw [start3 hi]
  have e2 : fStart3 [.str y, .str m.v, .int (j : Int)] = some (.bool (fits y m.v j)) := by
    show some (PyData.bool _) = _
    rw [start3 hj]
  have e0 := eqN
  have a1 : ∀ (a b : Int), gAdd (.int a) (.int b) = some (.int (a + b)) := fun _ _ => rfl
  unfold nx1
  generalize hf1 : fits x m.u i = f1 at e1 ⊢
  generalize hf2 : fits y m.v j = f2 at e2 ⊢
  by_cases h0 : m.p = s
  · cases f1 with
    | false => simp [fpBody, mC, mVar, mBor, mB, mNil, mCons, mNilB, mConsB, mTup, mLst, fit, mFz, mOw, NV.sv, mSeq, mRet, mIfS, mDrop, mSet, mPar, ownL, mAppend, gNm, gNilV, gConsV, gTupV, mAsg, mItems, itemsD, mFor, mLc, mYes, mIf, mAnd, mOr, mNot, toB, vAnd, vOr, vNot, mBl, mCmp, mChain, two, alt, mBin, mNeg, outF, startS, mRes, mResK, opsGet, mBu, mOu, mIsi, mPart, mPart0, mSl, mDict0, mM1, mM0, mMn, EO.bind, EO.lift, EO.st, Opd.get, EO.calm, wipeS, restS, e0, e1, h0]
    | true =>
      cases f2 with
      | false => simp [fpBody, mC, mVar, mBor, mB, mNil, mCons, mNilB, mConsB, mTup, mLst, fit, mFz, mOw, NV.sv, mSeq, mRet, mIfS, mDrop, mSet, mPar, ownL, mAppend, gNm, gNilV, gConsV, gTupV, mAsg, mItems, itemsD, mFor, mLc, mYes, mIf, mAnd, mOr, mNot, toB, vAnd, vOr, vNot, mBl, mCmp, mChain, two, alt, mBin, mNeg, outF, startS, mRes, mResK, opsGet, mBu, mOu, mIsi, mPart, mPart0, mSl, mDict0, mM1, mM0, mMn, EO.bind, EO.lift, EO.st, Opd.get, EO.calm, wipeS, restS, e0, e1, e2, h0]
      | true => simp [fpBody, mC, mVar, mBor, mB, mNil, mCons, mNilB, mConsB, mTup, mLst, fit, mFz, mOw, NV.sv, mSeq, mRet, mIfS, mDrop, mSet, mPar, ownL, mAppend, gNm, gNilV, gConsV, gTupV, mAsg, mItems, itemsD, mFor, mLc, mYes, mIf, mAnd, mOr, mNot, toB, vAnd, vOr, vNot, mBl, mCmp, mChain, two, alt, mBin, mNeg, outF, startS, mRes, mResK, opsGet, mBu, mOu, mIsi, mPart, mPart0, mSl, mDict0, mM1, mM0, mMn, EO.bind, EO.lift, EO.st, Opd.get, EO.calm, wipeS, restS, e0, e1, e2, h0, fLen, su, sv, a1, ha, show 3 ≤ sizeLine by decide, plD]
  · simp [fpBody, mC, mVar, mBor, mB, mNil, mCons, mNilB, mConsB, mTup, mLst, fit, mFz, mOw, NV.sv, mSeq, mRet, mIfS, mDrop, mSet, mPar, ownL, mAppend, gNm, gNilV, gConsV, gTupV, mAsg, mItems, itemsD, mFor, mLc, mYes, mIf, mAnd, mOr, mNot, toB, vAnd, vOr, vNot, mBl, mCmp, mChain, two, alt, mBin, mNeg, outF, startS, mRes, mResK, opsGet, mBu, mOu, mIsi, mPart, mPart0, mSl, mDict0, mM1, mM0, mMn, EO.bind, EO.lift, EO.st, Opd.get, EO.calm, wipeS, restS, e0, h0]
theorem fld_size {n : Nat} {b : List Nat} {mv : List Mv} {e : List Nat} : fFld "Pacer" "size" (pcD n b mv e) = some (.int n) := rfl
theorem fld_begins {n : Nat} {b : List Nat} {mv : List Mv} {e : List Nat} : fFld "Pacer" "begins" (pcD n b mv e) = some (natsD b) := rfl
theorem fld_moves {n : Nat} {b : List Nat} {mv : List Mv} {e : List Nat} : fFld "Pacer" "moves" (pcD n b mv e) = some (.tuple (mv.map mvD)) := rfl
theorem fld_ends {n : Nat} {b : List Nat} {mv : List Mv} {e : List Nat} : fFld "Pacer" "ends" (pcD n b mv e) = some (natsD e) := rfl
theorem seq_nx {m n : SS → SO} {ss ss1 : SS} (h : m ss = .nx ss1) : mSeq m n ss = n ss1 := by
  unfold mSeq
  rw [h]
theorem for_ok {m : SS → EO (List Dt)} {g : Dt → SS → Option SS} {n : SS → SO} {ss ss1 : SS} {items : List Dt} (h : m ss = .ok items ss1) : mFor m g n ss = forGo g n items ss1 := by
  unfold mFor
  rw [h]
  rfl
theorem fm_take {α β : Type} (f : α → Option β) (l : List α) (k : Nat) (h : k < l.length) : (l.take (k + 1)).filterMap f = match f l[k] with
    | some b => (l.take k).filterMap f ++ [b]
    | none => (l.take k).filterMap f := by
  rw [List.take_succ, List.getElem?_eq_getElem h, List.filterMap_append]
  cases hf : f l[k] <;> simp [hf]
theorem fp_all {n : Nat} {b e : List Nat} {mv : List Mv} {x y : Str} {p : Pl} (hx : x.length ≤ 1000) (hy : y.length ≤ 1000) (hm : ∀ m ∈ mv, m.u.length ≤ 1000 ∧ m.v.length ≤ 1000) (hl : mv.length ≤ 1000) (hi : p.2.1 ≤ x.length) (hj : p.2.2 ≤ y.length) :
    outF (fpM [some (.v (pcD n b mv e)), some (.v (plD p)), some (.v (.str x)), some (.v (.str y)), none, none, none, none, none, none, none, none]) = .ok (.list ((nxs mv x y p).map plD)) := by
  obtain ⟨s, i, j⟩ := p
  have hi : i ≤ x.length := hi
  have hj : j ≤ y.length := hj
  unfold fpM
  rw [seq_nx (ss1 := [some (.v (pcD n b mv e)), some (.v (plD (s, i, j))), some (.v (.str x)), some (.v (.str y)), none, some (.v (.int s)), some (.v (.int i)), some (.v (.int j)), none, none, none, none]) (by simp [mC, mVar, mBor, mB, mNil, mCons, mNilB, mConsB, mTup, mLst, fit, mFz, mOw, NV.sv, mSeq, mRet, mIfS, mDrop, mSet, mPar, ownL, mAppend, gNm, gNilV, gConsV, gTupV, mAsg, mItems, itemsD, mLc, mYes, mIf, mAnd, mOr, mNot, toB, vAnd, vOr, vNot, mBl, mCmp, mChain, two, alt, mBin, mNeg, outF, startS, mRes, mResK, opsGet, mBu, mOu, mIsi, mPart, mPart0, mSl, mDict0, mM1, mM0, mMn, EO.bind, EO.lift, EO.st, Opd.get, EO.calm, wipeS, restS, plD])]
  rw [seq_nx (ss1 := [some (.v (pcD n b mv e)), some (.v (plD (s, i, j))), some (.v (.str x)), some (.v (.str y)), some (.o (.list [])), some (.v (.int s)), some (.v (.int i)), some (.v (.int j)), none, none, none, none]) (by simp [mC, mVar, mBor, mB, mNil, mCons, mNilB, mConsB, mTup, mLst, fit, mFz, mOw, NV.sv, mSeq, mRet, mIfS, mDrop, mSet, mPar, ownL, mAppend, gNm, gNilV, gConsV, gTupV, mAsg, mItems, itemsD, mLc, mYes, mIf, mAnd, mOr, mNot, toB, vAnd, vOr, vNot, mBl, mCmp, mChain, two, alt, mBin, mNeg, outF, startS, mRes, mResK, opsGet, mBu, mOu, mIsi, mPart, mPart0, mSl, mDict0, mM1, mM0, mMn, EO.bind, EO.lift, EO.st, Opd.get, EO.calm, wipeS, restS])]
  obtain ⟨ss', e1, e2⟩ := forGo_ix (g := gTupV 4 (gConsV (gNm 8) (gConsV (gNm 9) (gConsV (gNm 10) (gConsV (gNm 11) gNilV))))) (n := fpBody) mvD (fun k ss => ∃ z1 z2 z3 z4, ss = [some (.v (pcD n b mv e)), some (.v (plD (s, i, j))), some (.v (.str x)), some (.v (.str y)), some (.o (.list (((mv.take k).filterMap (nx1 x y (s, i, j))).map plD))), some (.v (.int s)), some (.v (.int i)), some (.v (.int j)), z1, z2, z3, z4]) mv (fun k ss hk => by
    rintro ⟨z1, z2, z3, z4, rfl⟩
    have hmk := hm _ (List.getElem_mem hk)
    have st := fp_step (P := pcD n b mv e) (h := plD (s, i, j)) (acc := ((mv.take k).filterMap (nx1 x y (s, i, j))).map plD) (s := s) (m := mv[k]) hx hy hmk.1 hmk.2 hi hj (by
      rw [List.length_map]
      have h1 := List.length_filterMap_le (nx1 x y (s, i, j)) (mv.take k)
      rw [List.length_take] at h1
      exact Nat.lt_of_le_of_lt (Nat.le_trans h1 (by omega : _ ≤ 1000)) (by decide))
    refine ⟨_, _, rfl, .inl st, some (.v (.int mv[k].p)), some (.v (.str mv[k].u)), some (.v (.str mv[k].v)), some (.v (.int mv[k].q)), ?_⟩
    rw [fm_take _ _ _ hk]
    cases nx1 x y (s, i, j) mv[k] <;> simp) [some (.v (pcD n b mv e)), some (.v (plD (s, i, j))), some (.v (.str x)), some (.v (.str y)), some (.o (.list [])), some (.v (.int s)), some (.v (.int i)), some (.v (.int j)), none, none, none, none] ⟨none, none, none, none, rfl⟩
  rw [seq_nx (ss1 := ss') (by
    rw [for_ok (items := mv.map mvD) (ss1 := [some (.v (pcD n b mv e)), some (.v (plD (s, i, j))), some (.v (.str x)), some (.v (.str y)), some (.o (.list [])), some (.v (.int s)), some (.v (.int i)), some (.v (.int j)), none, none, none, none]) (by simp [mItems, mFld, mBor, EO.bind, EO.lift, Opd.get, fld_moves, itemsD])]
    exact e1)]
  obtain ⟨z1, z2, z3, z4, rfl⟩ := e2
  rw [List.take_length]
  simp [mRet, mVar, EO.st, outF, nxs]
end VL
namespace VL
open PySem PySem.Spec L2
open PyProof.Rows hiding St
variable [WW]
abbrev tlBody (G : List Dt → Res Dt) : SS → SO := (mSeq (mSet 5 (mFz (mPop 4)))
    (mIfS (mCmp fNotInA (mBor 5) (mBor 3)) (mSeq (mPut 3 (mVar 5) (mC (.bool true)))
    (mExtend 4 (mMeth "Pacer" "further_places" List.cons G (mVar 0) (mCons (mVar 5) (mCons (mVar 1) (mCons (mVar 2) mNil)))))) .nx))
noncomputable abbrev tlM (G : List Dt → Res Dt) : SS → SO := (mSeq (mParT [3, 4] (mNCons (mOw mDict0) (mNCons (mOw (mLc (mItems (mFld "Pacer" "begins" (mBor 0))) [6] (gNm 6) mYes (mTup (mCons (mVar 6) (mCons (mC (.int 0)) (mCons (mC (.int 0)) mNil)))))) mNNil)))
    (mSeq (mWhile (mCmp fNeA (mBor 4) (mB (mLst mNil))) (tlBody G))
    (mRet (mBu fAny (mConsB (mB (mLc (mItems (mFld "Pacer" "ends" (mBor 0))) [6] (gNm 6) mYes (mBl (mCmp fInA (mB (mTup (mCons (mVar 6) (mCons (mBu fLen (mConsB (mBor 1) mNilB)) (mCons (mBu fLen (mConsB (mBor 2) mNilB)) mNil))))) (mBor 3))))) mNilB)))))
def metD (met : List Pl) : List (Dt × Dt) := met.map fun p => (plD p, .bool true)
theorem plD_inj {p q : Pl} (h : plD p = plD q) : p = q := by
  obtain ⟨a, b, c⟩ := p
  obtain ⟨a', b', c'⟩ := q
  simp only [plD, PyData.tuple.injEq, List.cons.injEq, PyData.int.injEq, and_true] at h
  obtain ⟨h1, h2, h3⟩ := h
  have : a = a' := by omega
  have : b = b' := by omega
  have : c = c' := by omega
  simp [*]
theorem key_pl (p : Pl) : key1 (plD p) = false ∧ keyN (plD p) = true := ⟨rfl, by
  unfold keyN plD
  simp only [toNK, toNKs, Option.map]
  rfl⟩
theorem look_met (p : Pl) : ∀ met : List Pl, lookD (metD met) (plD p) = if p ∈ met then some (.bool true) else none
  | [] => rfl
  | q :: met => by
    have ih := look_met p met
    show lookD ((plD q, .bool true) :: metD met) (plD p) = _
    rw [lookD_cons, ih]
    by_cases e : q = p
    · subst e
      simp
    · rw [if_neg (fun h => e (plD_inj h))]
      have : ¬ p = q := fun h => e h.symm
      by_cases hm : p ∈ met <;> simp [hm, this]
theorem nk_met : ∀ met : List Pl, ((metD met).isEmpty || isNK (metD met)) = true
  | [] => rfl
  | _ :: _ => rfl
theorem fLook_met (p : Pl) (met : List Pl) : fLook (metD met) (plD p) = some (if p ∈ met then some (.bool true) else none) := by
  unfold fLook
  rw [(key_pl p).1, (key_pl p).2, nk_met, look_met]
  rfl
theorem notIn_met (p : Pl) (met : List Pl) : fNotInA (plD p) (.dict (metD met)) = some (!decide (p ∈ met)) := by
  show (fLook (metD met) (plD p)).map (fun o => if true then !o.isSome else o.isSome) = _
  rw [fLook_met]
  by_cases h : p ∈ met <;> simp [h]
theorem in_met (p : Pl) (met : List Pl) : fInA (plD p) (.dict (metD met)) = some (decide (p ∈ met)) := by
  show (fLook (metD met) (plD p)).map (fun o => if false then !o.isSome else o.isSome) = _
  rw [fLook_met]
  by_cases h : p ∈ met <;> simp [h]
theorem put_met (p : Pl) (met : List Pl) (h : p ∉ met) : putD (metD met) (plD p) (.bool true) = metD (met ++ [p]) := by
  unfold putD
  rw [if_neg]
  · simp [metD]
  · simp only [metD, List.any_map, List.any_eq_true, Function.comp, decide_eq_true_eq, not_exists, not_and]
    intro q hq e
    exact h (plD_inj e ▸ hq)
theorem neL_nil (ds : List Dt) : fNeA (.list ds) (.list []) = some (!ds.isEmpty) := rfl
theorem last_map {α β : Type} (f : α → β) (l : List α) : (l.map f).getLast? = l.getLast?.map f := by rw [List.getLast?_map]
theorem if_ok {c : SS → EO Bool} {m n : SS → SO} {ss ss1 : SS} {z : Bool} (h : c ss = .ok z ss1) : mIfS c m n ss = if z = true then m ss1 else n ss1 := by
  unfold mIfS
  rw [h]
  rfl
/-- one turn -/
theorem tl_step {G : List Dt → Res Dt} {n : Nat} {b e : List Nat} {mv : List Mv} {x y : Str} {met wait : List Pl} {z5 z6 : Option SV} {p : Pl} (hG : G [pcD n b mv e, plD p, .str x, .str y] = .ok (.list ((nxs mv x y p).map plD))) (hp : wait.getLast? = some p) (h1 : met.length < sizeLine) (h2 : wait.length + (nxs mv x y p).length ≤ sizeLine) :
    tlBody G [some (.v (pcD n b mv e)), some (.v (.str x)), some (.v (.str y)), some (.o (.dict (metD met))), some (.o (.list (wait.map plD))), z5, z6] =
    .nx (if p ∈ met then [some (.v (pcD n b mv e)), some (.v (.str x)), some (.v (.str y)), some (.o (.dict (metD met))), some (.o (.list (wait.dropLast.map plD))), some (.v (plD p)), z6] else [some (.v (pcD n b mv e)), some (.v (.str x)), some (.v (.str y)), some (.o (.dict (metD (met ++ [p])))), some (.o (.list ((wait.dropLast ++ nxs mv x y p).map plD))), some (.v (plD p)), z6]) := by
  have l1 : (wait.map plD).getLast? = some (plD p) := by rw [last_map, hp]; rfl
  have l2 : (wait.map plD).dropLast = wait.dropLast.map plD := by rw [List.map_dropLast]
  have l3 : wait.dropLast.length + (nxs mv x y p).length ≤ sizeLine := by
    rw [List.length_dropLast]
    omega
  have l4 : (metD met).length < sizeLine := by unfold metD; rw [List.length_map]; exact h1
  have cm : isCM "Pacer" "further_places" (pcD n b mv e) = true := rfl
  unfold tlBody
  rw [seq_nx (ss1 := [some (.v (pcD n b mv e)), some (.v (.str x)), some (.v (.str y)), some (.o (.dict (metD met))), some (.o (.list (wait.dropLast.map plD))), some (.v (plD p)), z6]) (by simp only [mSet, mFz, mPop, ownL, List.getElem?_cons_succ, List.getElem?_cons_zero, l1, l2, EO.bind, EO.st, NV.sv, List.length_cons, List.length_nil, List.set_cons_succ, List.set_cons_zero]; rfl)]
  rw [if_ok (z := !decide (p ∈ met)) (ss1 := [some (.v (pcD n b mv e)), some (.v (.str x)), some (.v (.str y)), some (.o (.dict (metD met))), some (.o (.list (wait.dropLast.map plD))), some (.v (plD p)), z6]) (by simp [mCmp, mBor, EO.bind, two, Opd.get, EO.lift, notIn_met])]
  by_cases hm : p ∈ met
  · simp only [hm, decide_true, Bool.not_true, if_true, Bool.false_eq_true, if_false]
  · simp only [hm, decide_false, Bool.not_false, if_true, if_false]
    rw [seq_nx (ss1 := [some (.v (pcD n b mv e)), some (.v (.str x)), some (.v (.str y)), some (.o (.dict (metD (met ++ [p])))), some (.o (.list (wait.dropLast.map plD))), some (.v (plD p)), z6]) (by simp [mPut, mVar, mC, EO.st, ownK, fLook_met, put_met p met hm, l4])]
    have e1 : mMeth "Pacer" "further_places" List.cons G (mVar 0) (mCons (mVar 5) (mCons (mVar 1) (mCons (mVar 2) mNil))) [some (.v (pcD n b mv e)), some (.v (.str x)), some (.v (.str y)), some (.o (.dict (metD (met ++ [p])))), some (.o (.list (wait.dropLast.map plD))), some (.v (plD p)), z6] = .ok (.list ((nxs mv x y p).map plD)) [some (.v (pcD n b mv e)), some (.v (.str x)), some (.v (.str y)), some (.o (.dict (metD (met ++ [p])))), some (.o (.list (wait.dropLast.map plD))), some (.v (plD p)), z6] := by
      simp only [mMeth, mVar, mCons, mNil, EO.bind, List.getElem?_cons_zero, List.getElem?_cons_succ, cm, if_true, hG]
    unfold mExtend
    rw [e1]
    simp only [ownL, List.getElem?_cons_zero, List.getElem?_cons_succ, EO.st, List.length_map]
    rw [if_pos l3]
    simp

def univ (n a b : Nat) : List Pl := (List.range n).flatMap fun s => (List.range (a + 1)).flatMap fun i => (List.range (b + 1)).map fun j => (s, i, j)
theorem mem_univ {n a b : Nat} {p : Pl} : p ∈ univ n a b ↔ p.1 < n ∧ p.2.1 ≤ a ∧ p.2.2 ≤ b := by
  obtain ⟨s, i, j⟩ := p
  unfold univ
  simp only [List.mem_flatMap, List.mem_range, List.mem_map, Prod.mk.injEq]
  constructor
  · rintro ⟨s', h1, i', h2, j', h3, rfl, rfl, rfl⟩
    exact ⟨h1, by omega, by omega⟩
  · rintro ⟨h1, h2, h3⟩
    exact ⟨s, h1, i, by omega, j, by omega, rfl, rfl, rfl⟩
theorem len_flat {α β : Type} (f : α → List β) (k : Nat) : ∀ l : List α, (∀ a ∈ l, (f a).length = k) → (l.flatMap f).length = l.length * k
  | [], _ => by simp
  | a :: l, h => by
    rw [List.flatMap_cons, List.length_append, h a (List.mem_cons_self ..), len_flat f k l fun a ha => h a (List.mem_cons_of_mem _ ha), List.length_cons, Nat.add_mul]
    omega
theorem len_univ (n a b : Nat) : (univ n a b).length = n * ((a + 1) * (b + 1)) := by
  unfold univ
  rw [len_flat _ ((a + 1) * (b + 1)), List.length_range]
  intro s _
  rw [len_flat _ (b + 1), List.length_range]
  intro i _
  rw [List.length_map, List.length_range]
def begB (b : List Nat) : List Pl := b.map fun s => (s, 0, 0)
/-- a pacer and two texts, none too large -/
structure PX (n : Nat) (b : List Nat) (mv : List Mv) (e : List Nat) (x y : Str) : Prop where
  hb : ∀ s ∈ b, s < n
  hm : ∀ m ∈ mv, m.p < n ∧ m.q < n ∧ m.u.length ≤ 1000 ∧ m.v.length ≤ 1000
  hx : x.length ≤ 1000
  hy : y.length ≤ 1000
  he : e.length ≤ 1000
  l : mv.length ≤ 1000
  z : b.length + n * ((x.length + 1) * (y.length + 1)) * (mv.length + 1) ≤ 1000000
def Tells (b : List Nat) (mv : List Mv) (e : List Nat) (x y : Str) : Prop := ∃ s ∈ e, Reach (begB b) (nxs mv x y) (s, x.length, y.length)
theorem nx1_some {x y : Str} {p q : Pl} {m : Mv} (h : nx1 x y p m = some q) : m.p = p.1 ∧ fits x m.u p.2.1 = true ∧ fits y m.v p.2.2 = true ∧ q = (m.q, p.2.1 + m.u.length, p.2.2 + m.v.length) := by
  unfold nx1 at h
  split at h
  · rename_i hc
    cases h
    exact ⟨hc.1, hc.2.1, hc.2.2, rfl⟩
  · cases h
theorem PX.fin {n : Nat} {b : List Nat} {mv : List Mv} {e : List Nat} {x y : Str} (X : PX n b mv e x y) : Fin' (begB b) (nxs mv x y) (univ n x.length y.length) mv.length where
  b := fun p hp => by
    obtain ⟨s, hs, rfl⟩ := List.mem_map.mp hp
    exact mem_univ.mpr ⟨X.hb s hs, Nat.zero_le _, Nat.zero_le _⟩
  n := fun p hp q hq => by
    obtain ⟨m, hm, h⟩ := List.mem_filterMap.mp hq
    obtain ⟨h1, h2, h3, rfl⟩ := nx1_some h
    have hu := mem_univ.mp hp
    exact mem_univ.mpr ⟨(X.hm m hm).2.1, fits_le h2 hu.2.1, fits_le h3 hu.2.2⟩
  m := fun p _ => List.length_filterMap_le _ _
theorem PX.small {n : Nat} {b : List Nat} {mv : List Mv} {e : List Nat} {x y : Str} (X : PX n b mv e x y) {met todo : List Pl} {len : Nat} (I : SInv (begB b) (nxs mv x y) (univ n x.length y.length) mv.length met todo len) : met.length < sizeLine ∧ len + mv.length ≤ sizeLine ∧ met.length ≤ 1000000 := by
  have h1 := I.len_le X.fin
  have h2 := I.ln
  have h3 := X.z
  rw [len_univ] at h1
  have hb : (begB b).length = b.length := List.length_map _
  rw [hb] at h2
  have h4 : met.length * mv.length ≤ n * ((x.length + 1) * (y.length + 1)) * mv.length := Nat.mul_le_mul_right _ h1
  rw [Nat.mul_add, Nat.mul_one] at h3
  have h5 := X.l
  have hs : sizeLine = 16777216 := sizeLine_eq
  omega
abbrev tlS (n : Nat) (b : List Nat) (mv : List Mv) (e : List Nat) (x y : Str) (a : List Pl × List Pl) (z5 z6 : Option SV) : SS := [some (.v (pcD n b mv e)), some (.v (.str x)), some (.v (.str y)), some (.o (.dict (metD a.1))), some (.o (.list (a.2.map plD))), z5, z6]
theorem tl_loop {G : List Dt → Res Dt} {n : Nat} {b e : List Nat} {mv : List Mv} {x y : Str} (X : PX n b mv e x y) (hG : ∀ p : Pl, p.2.1 ≤ x.length → p.2.2 ≤ y.length → G [pcD n b mv e, plD p, .str x, .str y] = .ok (.list ((nxs mv x y p).map plD))) (z5 z6 : Option SV) :
    ∃ met z5', mWhile (mCmp fNeA (mBor 4) (mB (mLst mNil))) (tlBody G) (tlS n b mv e x y ([], begB b) z5 z6) = .nx (tlS n b mv e x y (met, []) z5' z6) ∧ (∀ p, p ∈ met ↔ Reach (begB b) (nxs mv x y) p) := by
  obtain ⟨a, ss', e1, ⟨z5', rfl, I⟩, e3⟩ := mWhile_rel (c := mCmp fNeA (mBor 4) (mB (mLst mNil))) (n := tlBody G) (fun (a : List Pl × List Pl) ss => ∃ z5, ss = tlS n b mv e x y a z5 z6 ∧ SInv (begB b) (nxs mv x y) (univ n x.length y.length) mv.length a.1 a.2 a.2.length) (stepS (nxs mv x y)) (muS (univ n x.length y.length) mv.length) (by
    rintro ⟨met, wait⟩ ss ⟨z5, rfl, I⟩
    have c1 : mCmp fNeA (mBor 4) (mB (mLst mNil)) (tlS n b mv e x y (met, wait) z5 z6) = .ok (!wait.isEmpty) (tlS n b mv e x y (met, wait) z5 z6) := by
      have l : (wait.map plD).isEmpty = wait.isEmpty := by cases wait <;> rfl
      simp [mCmp, mBor, mB, mLst, mNil, fit, EO.bind, two, Opd.get, EO.lift, neL_nil, l]
    unfold stepS
    dsimp only
    cases hp : wait.getLast? with
    | none =>
      have : wait = [] := by rwa [List.getLast?_eq_none_iff] at hp
      subst this
      exact ⟨_, c1, _, rfl, I⟩
    | some p =>
      dsimp only
      have sm := X.small I
      have hpw : p ∈ wait := by rw [last_split hp]; simp
      have hu := mem_univ.mp (X.fin.reach (I.r2 p hpw))
      have ne : wait.isEmpty = false := by cases wait with
        | nil => cases hp
        | cons => rfl
      rw [ne] at c1
      have st := tl_step (z5 := z5) (z6 := z6) (hG p hu.2.1 hu.2.2) hp sm.1 (by
        have h1 := X.fin.m p (X.fin.reach (I.r2 p hpw))
        have h2 : wait.length + mv.length ≤ sizeLine := sm.2.1
        omega)
      have iv := stepS_inv X.fin I hp
      have mu := stepS_mu X.fin I hp
      by_cases hm : p ∈ met
      · rw [if_pos hm] at iv st ⊢
        exact ⟨mu.1 hm, _, _, c1, .inl st, _, rfl, iv⟩
      · rw [if_neg hm] at iv st ⊢
        exact ⟨mu.2 hm, _, _, c1, .inl st, _, rfl, iv⟩) ([], begB b) (tlS n b mv e x y ([], begB b) z5 z6) ⟨z5, rfl, .start⟩
  have hw : a.2 = [] := by
    unfold stepS at e3
    cases hp : a.2.getLast? with
    | none => rwa [List.getLast?_eq_none_iff] at hp
    | some p =>
      rw [hp] at e3
      dsimp only at e3
      split at e3 <;> cases e3
  obtain ⟨met, wait⟩ := a
  dsimp only at hw I
  subst hw
  exact ⟨met, z5', e1, fun p => I.done p⟩

theorem yes_ok (ss : SS) : mYes ss = .ok true ss := rfl
theorem filt_true {α : Type} (l : List α) : l.filter (fun _ => true) = l := by simp
theorem tl_all {G : List Dt → Res Dt} {n : Nat} {b e : List Nat} {mv : List Mv} {x y : Str} (X : PX n b mv e x y) (hG : ∀ p : Pl, p.2.1 ≤ x.length → p.2.2 ≤ y.length → G [pcD n b mv e, plD p, .str x, .str y] = .ok (.list ((nxs mv x y p).map plD))) :
    ∃ z, outF (tlM G [some (.v (pcD n b mv e)), some (.v (.str x)), some (.v (.str y)), none, none, none, none]) = .ok (.bool z) ∧ (z = true ↔ Tells b mv e x y) := by
  obtain ⟨met, z5, e1, e2⟩ := tl_loop X hG none none
  have hz := X.z
  have hs : sizeLine = 16777216 := sizeLine_eq
  have sx : x.length ≤ sizeLine := Nat.le_trans X.hx (by decide)
  have sy : y.length ≤ sizeLine := Nat.le_trans X.hy (by decide)
  refine ⟨e.any fun s => decide ((s, x.length, y.length) ∈ met), ?_, ?_⟩
  · unfold tlM
    have l1 : mLc (mItems (mFld "Pacer" "begins" (mBor 0))) [6] (gNm 6) mYes (mTup (mCons (mVar 6) (mCons (mC (.int 0)) (mCons (mC (.int 0)) mNil)))) [some (.v (pcD n b mv e)), some (.v (.str x)), some (.v (.str y)), none, none, none, none] = .ok (.list ((begB b).map plD)) [some (.v (pcD n b mv e)), some (.v (.str x)), some (.v (.str y)), none, none, none, none] := by
      refine Eq.trans (mLc_enc (fun s : Nat => (.int s : Dt)) (fun s => [some (.v (pcD n b mv e)), some (.v (.str x)), some (.v (.str y)), none, none, none, some (.v (.int s))]) (fun _ => true) (fun s => plD (s, 0, 0)) b (ss1 := [some (.v (pcD n b mv e)), some (.v (.str x)), some (.v (.str y)), none, none, none, none]) (by simp [mItems, mFld, mBor, EO.bind, EO.lift, Opd.get, fld_begins, natsD, itemsD]) (by rfl) (by rfl) (by intro s _; rfl) (by intro s _; rfl) (by intro s _ _; simp [mTup, mCons, mVar, mC, mNil, EO.bind, fit, plD, show 3 ≤ sizeLine by decide]) (by intro s _; rfl) (by omega)) ?_
      rw [filt_true]
      unfold begB
      rw [List.map_map]
      rfl
    rw [seq_nx (ss1 := tlS n b mv e x y ([], begB b) none none) (by
      simp only [mParT, mNCons, mNNil, mOw, mDict0, l1, EO.bind, EO.st]
      rfl)]
    rw [seq_nx e1]
    have l2 : mLc (mItems (mFld "Pacer" "ends" (mBor 0))) [6] (gNm 6) mYes (mBl (mCmp fInA (mB (mTup (mCons (mVar 6) (mCons (mBu fLen (mConsB (mBor 1) mNilB)) (mCons (mBu fLen (mConsB (mBor 2) mNilB)) mNil))))) (mBor 3))) (tlS n b mv e x y (met, []) z5 none) = .ok (.list (e.map fun s => .bool (decide ((s, x.length, y.length) ∈ met)))) (tlS n b mv e x y (met, []) z5 none) := by
      refine Eq.trans (mLc_enc (fun s : Nat => (.int s : Dt)) (fun s => [some (.v (pcD n b mv e)), some (.v (.str x)), some (.v (.str y)), some (.o (.dict (metD met))), some (.o (.list [])), z5, some (.v (.int s))]) (fun _ => true) (fun s => .bool (decide ((s, x.length, y.length) ∈ met))) e (ss1 := tlS n b mv e x y (met, []) z5 none) (s0 := [some (.v (pcD n b mv e)), some (.v (.str x)), some (.v (.str y)), some (.o (.dict (metD met))), some (.o (.list [])), z5, none]) (ss2 := tlS n b mv e x y (met, []) z5 none) (by simp [mItems, mFld, mBor, EO.bind, EO.lift, Opd.get, fld_ends, natsD, itemsD]) (by rfl) (by simp [restS]) (by intro s _; rfl) (by intro s _; rfl) (by
        intro s _ _
        have h := in_met (s, x.length, y.length) met
        unfold plD at h
        simp only [mBl, mCmp, mB, mTup, mCons, mVar, mBu, mConsB, mBor, mNilB, mNil, EO.bind, EO.lift, opsGet, Opd.get, List.getElem?_cons_zero, List.getElem?_cons_succ, Option.bind, fLen, if_pos sx, if_pos sy, fit, List.length_cons, List.length_nil, two, h]
        simp [show 3 ≤ sizeLine by decide, h]) (by intro s _; rfl) (by have := X.he; omega)) ?_
      rw [filt_true]
    simp [mRet, mBu, mConsB, mB, mNilB, l2, EO.bind, EO.st, EO.lift, opsGet, Opd.get, fAny, boolsD_map, outF]
  · rw [List.any_eq_true]
    unfold Tells
    constructor
    · rintro ⟨s, h1, h2⟩
      exact ⟨s, h1, (e2 _).mp (of_decide_eq_true h2)⟩
    · rintro ⟨s, h1, h2⟩
      exact ⟨s, h1, decide_eq_true ((e2 _).mpr h2)⟩
end VL

namespace VL
open PySem PySem.Spec L2
open PyProof.Rows hiding St
variable [WW]
abbrev tdIn : SS → SO := (mIfS (mAnd (mCmp fEqA (mBor 9) (mBor 6)) (mAnd (mCmp fEqA (mB (mSl (mBor 1) (mPart (mVar 7)) (mPart (mBin gAdd (mBor 7) (mB (mBu fLen (mConsB (mBor 10) mNilB))))))) (mBor 10)) (mCmp fEqA (mB (mSl (mBor 2) (mPart (mVar 8)) (mPart (mBin gAdd (mBor 8) (mB (mBu fLen (mConsB (mBor 11) mNilB))))))) (mBor 11)))) (mAppend 4 (mTup (mCons (mVar 12) (mCons (mBin gAdd (mBor 7) (mB (mBu fLen (mConsB (mBor 10) mNilB)))) (mCons (mBin gAdd (mBor 8) (mB (mBu fLen (mConsB (mBor 11) mNilB)))) mNil))))) .nx)
abbrev tdBody : SS → SO := (mSeq (mAsg (gTupV 3 (gConsV (gNm 6) (gConsV (gNm 7) (gConsV (gNm 8) gNilV)))) (mBin fIx (mBor 4) (mBor 5)))
    (mSeq (mSet 5 (mFz (mBin gAdd (mBor 5) (mB (mC (.int 1))))))
    (mIfS (mCmp fNotInA (mB (mTup (mCons (mVar 6) (mCons (mVar 7) (mCons (mVar 8) mNil))))) (mBor 3)) (mSeq (mPut 3 (mTup (mCons (mVar 6) (mCons (mVar 7) (mCons (mVar 8) mNil)))) (mC (.bool true)))
    (mFor (mItems (mBin fDGet (mBor 0) (mB (mC (.str "ways"))))) (gTupV 4 (gConsV (gNm 9) (gConsV (gNm 10) (gConsV (gNm 11) (gConsV (gNm 12) gNilV))))) tdIn)) .nx)))
noncomputable abbrev tdM : SS → SO := (mSeq (mParT [3, 4, 5] (mNCons (mOw mDict0) (mNCons (mOw (mLc (mItems (mBin fDGet (mBor 0) (mB (mC (.str "in"))))) [6] (gNm 6) mYes (mTup (mCons (mVar 6) (mCons (mC (.int 0)) (mCons (mC (.int 0)) mNil)))))) (mNCons (mFz (mC (.int 0))) mNNil))))
    (mSeq (mWhile (mCmp fLt (mBor 5) (mB (mBu fLen (mConsB (mBor 4) mNilB)))) tdBody)
    (mRet (mBl (mCmp fNeA (mB (mLc (mItems (mBin fDGet (mBor 0) (mB (mC (.str "out"))))) [6] (gNm 6) (mCmp fInA (mB (mTup (mCons (mVar 6) (mCons (mBu fLen (mConsB (mBor 1) mNilB)) (mCons (mBu fLen (mConsB (mBor 2) mNilB)) mNil))))) (mBor 3)) (mVar 6))) (mB (mLst mNil)))))))
def wD (n : Nat) (b : List Nat) (mv : List Mv) (e : List Nat) : Dt := .dict [(.str "wide", .int n), (.str "in", natsD b), (.str "ways", .list (mv.map mvD)), (.str "out", natsD e)]
theorem w_look {n : Nat} {b e : List Nat} {mv : List Mv} (k : Str) : fDGet (wD n b mv e) (.str k) = if ("wide" : Str) = k then some (.int n) else if ("in" : Str) = k then some (natsD b) else if ("ways" : Str) = k then some (.list (mv.map mvD)) else if ("out" : Str) = k then some (natsD e) else none := by
  unfold wD fDGet
  dsimp only
  unfold fLook
  rw [if_pos (by rfl)]
  simp only [lookD_cons, lookD_nil, PyData.str.injEq, Option.bind]
theorem w_wide {n : Nat} {b e : List Nat} {mv : List Mv} : fDGet (wD n b mv e) (.str "wide") = some (.int n) := by rw [w_look, if_pos rfl]
theorem w_in {n : Nat} {b e : List Nat} {mv : List Mv} : fDGet (wD n b mv e) (.str "in") = some (natsD b) := by rw [w_look, if_neg (by decide), if_pos rfl]
theorem w_ways {n : Nat} {b e : List Nat} {mv : List Mv} : fDGet (wD n b mv e) (.str "ways") = some (.list (mv.map mvD)) := by rw [w_look, if_neg (by decide), if_neg (by decide), if_pos rfl]
theorem w_out {n : Nat} {b e : List Nat} {mv : List Mv} : fDGet (wD n b mv e) (.str "out") = some (natsD e) := by rw [w_look, if_neg (by decide), if_neg (by decide), if_neg (by decide), if_pos rfl]
theorem cut_fits {x u : Str} {i : Nat} (hi : i ≤ x.length) : decide (cutS x (some (i : Int)) (some ((i : Int) + (u.length : Nat))) = u) = fits x u i := by
  unfold fits
  rw [decide_eq_decide]
  have e1 : HT.sIx x.length 0 (some (i : Int)) = i := by rw [HT.sIx_nat]; omega
  have e2 : HT.sIx x.length x.length (some ((i : Int) + (u.length : Nat))) = min (i + u.length) x.length := by
    rw [show (i : Int) + (u.length : Nat) = ((i + u.length : Nat) : Int) by omega, HT.sIx_nat]
  unfold cutS
  rw [e1, e2]
  have e3 : (x.cps.toList.drop i).take (min (i + u.length) x.length - i) = (x.cps.toList.drop i).take u.length := by
    rcases Nat.le_total (i + u.length) x.length with h | h
    · rw [Nat.min_eq_left h]
      congr 1
      omega
    · rw [Nat.min_eq_right h, List.take_of_length_le (by rw [List.length_drop, len_cps]; omega), List.take_of_length_le (by rw [List.length_drop, len_cps]; omega)]
  rw [e3]
  constructor
  · intro h
    conv => rhs; rw [← h]
  · intro h
    rw [h]
abbrev tdS (W : Dt) (x y : Str) (met wait : List Pl) (k : Nat) (r : List (Option SV)) : SS := some (.v W) :: some (.v (.str x)) :: some (.v (.str y)) :: some (.o (.dict (metD met))) :: some (.o (.list (wait.map plD))) :: some (.v (.int k)) :: r
abbrev plR (p : Pl) (r : List (Option SV)) : List (Option SV) := some (.v (.int p.1)) :: some (.v (.int p.2.1)) :: some (.v (.int p.2.2)) :: r
abbrev mvR (m : Mv) : List (Option SV) := [some (.v (.int m.p)), some (.v (.str m.u)), some (.v (.str m.v)), some (.v (.int m.q))]
theorem td_in {W : Dt} {x y : Str} {met wait : List Pl} {k : Nat} {p : Pl} {m : Mv} (hx : x.length ≤ 1000) (hy : y.length ≤ 1000) (hu : m.u.length ≤ 1000) (hv : m.v.length ≤ 1000) (hi : p.2.1 ≤ x.length) (hj : p.2.2 ≤ y.length) (ha : wait.length < sizeLine) :
    tdIn (tdS W x y met wait k (plR p (mvR m))) = .nx (tdS W x y met (match nx1 x y p m with | some q => wait ++ [q] | none => wait) k (plR p (mvR m))) := by
  obtain ⟨s, i, j⟩ := p
  have hi : i ≤ x.length := hi
  have hj : j ≤ y.length := hj
  have sx : x.length ≤ sizeLine := Nat.le_trans hx (by decide)
  have sy : y.length ≤ sizeLine := Nat.le_trans hy (by decide)
  have su : m.u.length ≤ sizeLine := Nat.le_trans hu (by decide)
  have sv : m.v.length ≤ sizeLine := Nat.le_trans hv (by decide)
  have e1 : fEqA (.str (cutS x (some (i : Int)) (some ((i : Int) + (m.u.length : Nat))))) (.str m.u) = some (fits x m.u i) := by rw [eqA_txt, cut_fits hi]
  have e2 : fEqA (.str (cutS y (some (j : Int)) (some ((j : Int) + (m.v.length : Nat))))) (.str m.v) = some (fits y m.v j) := by rw [eqA_txt, cut_fits hj]
  have e0 := eqN
  have a1 : ∀ (a b : Int), gAdd (.int a) (.int b) = some (.int (a + b)) := fun _ _ => rfl
  have f1 : ∀ (z : Str) (lo hi : Option Int), z.length ≤ sizeLine → fSl (.str z) lo hi = some (.str (cutS z lo hi)) := fun z lo hi h => if_pos h
  have g1 := f1 x (some (i : Int)) (some ((i : Int) + (m.u.length : Nat))) sx
  have g2 := f1 y (some (j : Int)) (some ((j : Int) + (m.v.length : Nat))) sy
  unfold nx1
  dsimp only
  generalize hf1 : fits x m.u i = f1 at e1 ⊢
  generalize hf2 : fits y m.v j = f2 at e2 ⊢
  have ha' : (wait.map plD).length < sizeLine := by rw [List.length_map]; exact ha
  by_cases h0 : m.p = s
  · cases f1 with
    | false => simp [tdIn, mC, mVar, mBor, mB, mNil, mCons, mNilB, mConsB, mTup, mLst, fit, mFz, mOw, NV.sv, mSeq, mRet, mIfS, mDrop, mSet, mPar, ownL, mAppend, gNm, gNilV, gConsV, gTupV, mAsg, mItems, itemsD, mLc, mYes, mIf, mAnd, mOr, mNot, toB, vAnd, vOr, vNot, mBl, mCmp, mChain, two, mBin, mNeg, outF, startS, mRes, mResK, opsGet, mBu, mOu, mIsi, mPart, mPart0, mSl, mDict0, mM1, mM0, mMn, EO.bind, EO.lift, EO.st, Opd.get, EO.calm, wipeS, restS, e0, e1, h0, g1, a1, fLen, su, sv]
    | true =>
      cases f2 with
      | false => simp [tdIn, mC, mVar, mBor, mB, mNil, mCons, mNilB, mConsB, mTup, mLst, fit, mFz, mOw, NV.sv, mSeq, mRet, mIfS, mDrop, mSet, mPar, ownL, mAppend, gNm, gNilV, gConsV, gTupV, mAsg, mItems, itemsD, mLc, mYes, mIf, mAnd, mOr, mNot, toB, vAnd, vOr, vNot, mBl, mCmp, mChain, two, mBin, mNeg, outF, startS, mRes, mResK, opsGet, mBu, mOu, mIsi, mPart, mPart0, mSl, mDict0, mM1, mM0, mMn, EO.bind, EO.lift, EO.st, Opd.get, EO.calm, wipeS, restS, e0, e1, e2, h0, g1, g2, a1, fLen, su, sv]
      | true => simp [tdIn, mC, mVar, mBor, mB, mNil, mCons, mNilB, mConsB, mTup, mLst, fit, mFz, mOw, NV.sv, mSeq, mRet, mIfS, mDrop, mSet, mPar, ownL, mAppend, gNm, gNilV, gConsV, gTupV, mAsg, mItems, itemsD, mLc, mYes, mIf, mAnd, mOr, mNot, toB, vAnd, vOr, vNot, mBl, mCmp, mChain, two, mBin, mNeg, outF, startS, mRes, mResK, opsGet, mBu, mOu, mIsi, mPart, mPart0, mSl, mDict0, mM1, mM0, mMn, EO.bind, EO.lift, EO.st, Opd.get, EO.calm, wipeS, restS, e0, e1, e2, h0, g1, g2, a1, fLen, su, sv, ha, show 3 ≤ sizeLine by decide, plD]
  · simp [tdIn, mC, mVar, mBor, mB, mNil, mCons, mNilB, mConsB, mTup, mLst, fit, mFz, mOw, NV.sv, mSeq, mRet, mIfS, mDrop, mSet, mPar, ownL, mAppend, gNm, gNilV, gConsV, gTupV, mAsg, mItems, itemsD, mLc, mYes, mIf, mAnd, mOr, mNot, toB, vAnd, vOr, vNot, mBl, mCmp, mChain, two, mBin, mNeg, outF, startS, mRes, mResK, opsGet, mBu, mOu, mIsi, mPart, mPart0, mSl, mDict0, mM1, mM0, mMn, EO.bind, EO.lift, EO.st, Opd.get, EO.calm, wipeS, restS, e0, h0]

theorem ix_list {wait : List Pl} {k : Nat} {p : Pl} (h : wait[k]? = some p) : fIx (.list (wait.map plD)) (.int (k : Nat)) = some (plD p) := by
  show atI (wait.map plD) (k : Int) = _
  exact atI_nat (by rw [List.getElem?_map, h]; rfl)
theorem td_step {n : Nat} {b e : List Nat} {mv : List Mv} {x y : Str} {met wait : List Pl} {k : Nat} {p : Pl} (hx : x.length ≤ 1000) (hy : y.length ≤ 1000) (hm : ∀ m ∈ mv, m.u.length ≤ 1000 ∧ m.v.length ≤ 1000) (hi : p.2.1 ≤ x.length) (hj : p.2.2 ≤ y.length) (hp : wait[k]? = some p) (h1 : met.length < sizeLine) (h2 : wait.length + mv.length ≤ sizeLine) (z6 z7 z8 z9 z10 z11 z12 : Option SV) :
    ∃ z9' z10' z11' z12', tdBody (tdS (wD n b mv e) x y met wait k [z6, z7, z8, z9, z10, z11, z12]) = .nx (if p ∈ met then tdS (wD n b mv e) x y met wait (k + 1) (plR p [z9', z10', z11', z12']) else tdS (wD n b mv e) x y (met ++ [p]) (wait ++ nxs mv x y p) (k + 1) (plR p [z9', z10', z11', z12'])) := by
  have l4 : (metD met).length < sizeLine := by unfold metD; rw [List.length_map]; exact h1
  have ix := ix_list hp
  unfold tdBody
  rw [seq_nx (ss1 := tdS (wD n b mv e) x y met wait k (plR p [z9, z10, z11, z12])) (by
    simp only [mAsg, mBin, mBor, EO.bind, EO.st, EO.lift, two, Opd.get, List.getElem?_cons_zero, List.getElem?_cons_succ, ix]
    rfl)]
  rw [seq_nx (ss1 := tdS (wD n b mv e) x y met wait (k + 1) (plR p [z9, z10, z11, z12])) (by
    have a1 : gAdd (.int (k : Nat)) (.int 1) = some (.int ((k + 1 : Nat) : Int)) := rfl
    simp only [mSet, mFz, mBin, mBor, mB, mC, EO.bind, EO.st, EO.lift, two, Opd.get, List.getElem?_cons_zero, List.getElem?_cons_succ, a1]
    rfl)]
  have nt := notIn_met p met
  have tp : ∀ (W : Dt) (met wait : List Pl) (k : Nat) (r : List (Option SV)), mTup (mCons (mVar 6) (mCons (mVar 7) (mCons (mVar 8) mNil))) (tdS W x y met wait k (plR p r)) = .ok (plD p) (tdS W x y met wait k (plR p r)) := fun W met wait k r => by
    simp only [mTup, mCons, mVar, mNil, EO.bind, List.getElem?_cons_zero, List.getElem?_cons_succ, fit, List.length_cons, List.length_nil]
    rw [if_pos (by decide)]
    rfl
  rw [if_ok (z := !decide (p ∈ met)) (ss1 := tdS (wD n b mv e) x y met wait (k + 1) (plR p [z9, z10, z11, z12])) (by
    simp only [mCmp, mB, tp, mBor, EO.bind, two, Opd.get, EO.lift, List.getElem?_cons_zero, List.getElem?_cons_succ, nt])]
  by_cases hmm : p ∈ met
  · refine ⟨z9, z10, z11, z12, ?_⟩
    simp only [hmm, decide_true, Bool.not_true, if_true, Bool.false_eq_true, if_false]
  · simp only [hmm, decide_false, Bool.not_false, if_true, if_false]
    rw [seq_nx (ss1 := tdS (wD n b mv e) x y (met ++ [p]) wait (k + 1) (plR p [z9, z10, z11, z12])) (by
      unfold mPut
      simp only [mC, EO.st, ownK, List.getElem?_cons_zero, List.getElem?_cons_succ, tp, fLook_met]
      rw [if_pos l4, put_met p met hmm]
      rfl)]
    obtain ⟨ss', e1, z1, z2, z3, z4, rfl⟩ := forGo_ix (g := gTupV 4 (gConsV (gNm 9) (gConsV (gNm 10) (gConsV (gNm 11) (gConsV (gNm 12) gNilV))))) (n := tdIn) mvD (fun j ss => ∃ z1 z2 z3 z4, ss = tdS (wD n b mv e) x y (met ++ [p]) (wait ++ (mv.take j).filterMap (nx1 x y p)) (k + 1) (plR p [z1, z2, z3, z4])) mv (fun j ss hj' => by
      rintro ⟨z1, z2, z3, z4, rfl⟩
      have hmk := hm _ (List.getElem_mem hj')
      have st := td_in (W := wD n b mv e) (met := met ++ [p]) (wait := wait ++ (mv.take j).filterMap (nx1 x y p)) (k := k + 1) (p := p) (m := mv[j]) hx hy hmk.1 hmk.2 hi hj (by
        rw [List.length_append]
        have h3 := List.length_filterMap_le (nx1 x y p) (mv.take j)
        rw [List.length_take] at h3
        omega)
      refine ⟨_, _, rfl, .inl st, some (.v (.int mv[j].p)), some (.v (.str mv[j].u)), some (.v (.str mv[j].v)), some (.v (.int mv[j].q)), ?_⟩
      rw [fm_take _ _ _ hj']
      cases nx1 x y p mv[j] <;> simp) (tdS (wD n b mv e) x y (met ++ [p]) wait (k + 1) (plR p [z9, z10, z11, z12])) ⟨z9, z10, z11, z12, by simp⟩
    refine ⟨z1, z2, z3, z4, ?_⟩
    rw [List.take_length] at e1
    rw [for_ok (items := mv.map mvD) (ss1 := tdS (wD n b mv e) x y (met ++ [p]) wait (k + 1) (plR p [z9, z10, z11, z12])) (by
      simp only [mItems, mBin, mB, mC, mBor, EO.bind, EO.lift, two, Opd.get, List.getElem?_cons_zero, List.getElem?_cons_succ, w_ways, itemsD])]
    exact e1
theorem td_loop {n : Nat} {b e : List Nat} {mv : List Mv} {x y : Str} (X : PX n b mv e x y) (z6 z7 z8 z9 z10 z11 z12 : Option SV) :
    ∃ met wait k r, mWhile (mCmp fLt (mBor 5) (mB (mBu fLen (mConsB (mBor 4) mNilB)))) tdBody (tdS (wD n b mv e) x y [] (begB b) 0 [z6, z7, z8, z9, z10, z11, z12]) = .nx (tdS (wD n b mv e) x y met wait k r) ∧ r.length = 7 ∧ (∀ p, p ∈ met ↔ Reach (begB b) (nxs mv x y) p) := by
  obtain ⟨a, ss', e1, ⟨y6, y7, y8, y9, y10, y11, y12, rfl, I⟩, e3⟩ := mWhile_rel (c := mCmp fLt (mBor 5) (mB (mBu fLen (mConsB (mBor 4) mNilB)))) (n := tdBody) (fun (a : List Pl × List Pl × Nat) ss => ∃ z6 z7 z8 z9 z10 z11 z12, ss = tdS (wD n b mv e) x y a.1 a.2.1 a.2.2 [z6, z7, z8, z9, z10, z11, z12] ∧ SInv (begB b) (nxs mv x y) (univ n x.length y.length) mv.length a.1 (a.2.1.drop a.2.2) a.2.1.length) (stepQ (nxs mv x y)) (muQ (univ n x.length y.length) mv.length) (by
    rintro ⟨met, wait, k⟩ ss ⟨z6, z7, z8, z9, z10, z11, z12, rfl, I⟩
    dsimp only at I
    have sm := X.small I
    have c1 : mCmp fLt (mBor 5) (mB (mBu fLen (mConsB (mBor 4) mNilB))) (tdS (wD n b mv e) x y met wait k [z6, z7, z8, z9, z10, z11, z12]) = .ok (decide (k < wait.length)) (tdS (wD n b mv e) x y met wait k [z6, z7, z8, z9, z10, z11, z12]) := by
      simp [mCmp, mBor, mB, mBu, mConsB, mNilB, opsGet, EO.bind, two, Opd.get, EO.lift, fLen, fInt]
    unfold stepQ
    dsimp only
    cases hp : wait[k]? with
    | none =>
      have hk : ¬ k < wait.length := by
        intro h
        rw [List.getElem?_eq_getElem h] at hp
        cases hp
      rw [decide_eq_false hk] at c1
      exact ⟨_, c1, _, _, _, _, _, _, _, rfl, I⟩
    | some p =>
      dsimp only
      obtain ⟨hk, hpe⟩ := List.getElem?_eq_some_iff.mp hp
      have hpw : p ∈ wait.drop k := by rw [List.drop_eq_getElem_cons hk, hpe]; exact List.mem_cons_self ..
      have hu := mem_univ.mp (X.fin.reach (I.r2 p hpw))
      rw [decide_eq_true hk] at c1
      obtain ⟨w9, w10, w11, w12, st⟩ := td_step (n := n) (b := b) (e := e) X.hx X.hy (fun m hm => (X.hm m hm).2.2) hu.2.1 hu.2.2 hp sm.1 sm.2.1 z6 z7 z8 z9 z10 z11 z12
      have iv := stepQ_inv X.fin I hp
      have mu := stepQ_mu X.fin I hp
      by_cases hm : p ∈ met
      · rw [if_pos hm] at iv st ⊢
        exact ⟨mu.1 hm, _, _, c1, .inl st, _, _, _, _, _, _, _, rfl, iv⟩
      · rw [if_neg hm] at iv st ⊢
        exact ⟨mu.2 hm, _, _, c1, .inl st, _, _, _, _, _, _, _, rfl, iv⟩) ([], begB b, 0) (tdS (wD n b mv e) x y [] (begB b) 0 [z6, z7, z8, z9, z10, z11, z12]) ⟨z6, z7, z8, z9, z10, z11, z12, rfl, .start⟩
  obtain ⟨met, wait, k⟩ := a
  have hw : wait.drop k = [] := by
    unfold stepQ at e3
    dsimp only at e3
    cases hp : wait[k]? with
    | none => exact List.drop_of_length_le (List.getElem?_eq_none_iff.mp hp)
    | some p =>
      rw [hp] at e3
      dsimp only at e3
      split at e3 <;> cases e3
  dsimp only at I
  rw [hw] at I
  exact ⟨met, wait, k, [y6, y7, y8, y9, y10, y11, y12], e1, rfl, fun p => I.done p⟩

theorem td_all {n : Nat} {b e : List Nat} {mv : List Mv} {x y : Str} (X : PX n b mv e x y) :
    ∃ z, outF (tdM [some (.v (wD n b mv e)), some (.v (.str x)), some (.v (.str y)), none, none, none, none, none, none, none, none, none, none]) = .ok (.bool z) ∧ (z = true ↔ Tells b mv e x y) := by
  obtain ⟨met, wait, k, r, e1, hr, e2⟩ := td_loop X none none none none none none none
  have hz := X.z
  have hs : sizeLine = 16777216 := sizeLine_eq
  have sx : x.length ≤ sizeLine := Nat.le_trans X.hx (by decide)
  have sy : y.length ≤ sizeLine := Nat.le_trans X.hy (by decide)
  refine ⟨!(e.filter fun s => decide ((s, x.length, y.length) ∈ met)).isEmpty, ?_, ?_⟩
  · unfold tdM
    have l1 : mLc (mItems (mBin fDGet (mBor 0) (mB (mC (.str "in"))))) [6] (gNm 6) mYes (mTup (mCons (mVar 6) (mCons (mC (.int 0)) (mCons (mC (.int 0)) mNil)))) [some (.v (wD n b mv e)), some (.v (.str x)), some (.v (.str y)), none, none, none, none, none, none, none, none, none, none] = .ok (.list ((begB b).map plD)) [some (.v (wD n b mv e)), some (.v (.str x)), some (.v (.str y)), none, none, none, none, none, none, none, none, none, none] := by
      refine Eq.trans (mLc_enc (fun s : Nat => (.int s : Dt)) (fun s => [some (.v (wD n b mv e)), some (.v (.str x)), some (.v (.str y)), none, none, none, some (.v (.int s)), none, none, none, none, none, none]) (fun _ => true) (fun s => plD (s, 0, 0)) b (ss1 := [some (.v (wD n b mv e)), some (.v (.str x)), some (.v (.str y)), none, none, none, none, none, none, none, none, none, none]) (by simp [mItems, mBin, mB, mC, two, mBor, EO.bind, EO.lift, Opd.get, w_in, natsD, itemsD]) (by rfl) (by rfl) (by intro s _; rfl) (by intro s _; rfl) (by intro s _ _; simp [mTup, mCons, mVar, mC, mNil, EO.bind, fit, plD, show 3 ≤ sizeLine by decide]) (by intro s _; rfl) (by omega)) ?_
      rw [filt_true]
      unfold begB
      rw [List.map_map]
      rfl
    rw [seq_nx (ss1 := tdS (wD n b mv e) x y [] (begB b) 0 [none, none, none, none, none, none, none]) (by
      simp only [mParT, mNCons, mNNil, mOw, mFz, mC, mDict0, l1, EO.bind, EO.st]
      rfl)]
    rw [seq_nx e1]
    match r, hr with
    | [z6, z7, z8, z9, z10, z11, z12], _ =>
      have l2 := mLc_enc (m := mItems (mBin fDGet (mBor 0) (mB (mC (.str "out"))))) (vs := [6]) (g := gNm 6) (mt := mCmp fInA (mB (mTup (mCons (mVar 6) (mCons (mBu fLen (mConsB (mBor 1) mNilB)) (mCons (mBu fLen (mConsB (mBor 2) mNilB)) mNil))))) (mBor 3)) (me := mVar 6) (ss := tdS (wD n b mv e) x y met wait k [z6, z7, z8, z9, z10, z11, z12]) (fun s : Nat => (.int s : Dt)) (fun s => tdS (wD n b mv e) x y met wait k [some (.v (.int s)), z7, z8, z9, z10, z11, z12]) (fun s => decide ((s, x.length, y.length) ∈ met)) (fun s => .int s) e (ss1 := tdS (wD n b mv e) x y met wait k [z6, z7, z8, z9, z10, z11, z12]) (s0 := tdS (wD n b mv e) x y met wait k [none, z7, z8, z9, z10, z11, z12]) (ss2 := restS (tdS (wD n b mv e) x y met wait k [z6, z7, z8, z9, z10, z11, z12]) (tdS (wD n b mv e) x y met wait k [none, z7, z8, z9, z10, z11, z12]) [6]) (by simp [mItems, mBin, mB, mC, two, mBor, EO.bind, EO.lift, Opd.get, w_out, natsD, itemsD]) (by rfl) (by rfl) (by intro s _; rfl) (by
        intro s _
        have h : fInA (.tuple [.int (s : Nat), .int (x.length : Nat), .int (y.length : Nat)]) (.dict (metD met)) = some (decide ((s, x.length, y.length) ∈ met)) := in_met (s, x.length, y.length) met
        simp only [mCmp, mB, mTup, mCons, mVar, mBu, mConsB, mBor, mNilB, mNil, EO.bind, EO.lift, opsGet, Opd.get, List.getElem?_cons_zero, List.getElem?_cons_succ, Option.bind, fLen, if_pos sx, if_pos sy, fit, List.length_cons, List.length_nil, two]
        rw [if_pos (by decide)]
        simp only [List.getElem?_cons_zero, List.getElem?_cons_succ, h]) (by intro s _ _; rfl) (by intro s _; rfl) (by have := X.he; omega)
      have l3 : ((e.filter fun s => decide ((s, x.length, y.length) ∈ met)).map fun s : Nat => (.int s : Dt)).isEmpty = (e.filter fun s => decide ((s, x.length, y.length) ∈ met)).isEmpty := by rw [List.isEmpty_map]
      simp only [mRet, mBl, mCmp, mB, l2, mLst, mNil, fit, List.length_nil, if_pos (Nat.zero_le _), EO.bind, EO.st, EO.lift, two, Opd.get, neL_nil, l3, outF]
  · rw [Bool.not_eq_true', ← Bool.not_eq_true, List.isEmpty_iff]
    unfold Tells
    constructor
    · intro h
      obtain ⟨s, hs⟩ := List.exists_mem_of_ne_nil _ h
      obtain ⟨h1, h2⟩ := List.mem_filter.mp hs
      exact ⟨s, h1, (e2 _).mp (of_decide_eq_true h2)⟩
    · rintro ⟨s, h1, h2⟩ h
      have : s ∈ e.filter fun s => decide ((s, x.length, y.length) ∈ met) := List.mem_filter.mpr ⟨h1, decide_eq_true ((e2 _).mpr h2)⟩
      rw [h] at this
      cases this
end VL

namespace VL
open PySem PySem.Spec L2
open PyProof.Rows hiding St
variable [WW]
abbrev iiM : SS → SO := (mRet (vAnd (mIsi "int" (mBor 0)) (vNot (mIsi "bool" (mBor 0)))))
abbrev ixM (Gii : List Dt → Res Dt) : SS → SO := (mRet (vAnd (mRes Gii (mCons (mVar 1) mNil)) (mBl (mChain fLe fLt (mB (mC (.int 0))) (mBor 1) (mBor 0)))))
abbrev asM (Gix : List Dt → Res Dt) : SS → SO := (mSeq (mIfS (mOr (mNot (toB (mIsi "tuple" (mBor 1)))) (mNot (toB (mBu fAll (mConsB (mB (mLc (mItems (mVar 1)) [4] (gNm 4) mYes (mRes Gix (mCons (mVar 0) (mCons (mVar 4) mNil))))) mNilB))))) (mRet (mC (.bool false))) .nx)
    (mRet (mBu fAll (mConsB (mB (mLc (mZip (mCons (mVar 1) (mCons (mSl (mBor 1) (mPart (mC (.int 1))) mPart0) mNil))) [2, 3] (gTupV 2 (gConsV (gNm 2) (gConsV (gNm 3) gNilV))) mYes (mBl (mCmp fLt (mBor 2) (mBor 3))))) mNilB))))
abbrev itM : SS → SO := (mRet (vAnd (mIsi "str" (mBor 0)) (mBu fAll (mConsB (mB (mLc (mItems (mVar 0)) [1] (gNm 1) mYes (mBl (mCmp fInA (mBor 1) (mB (mC (.str "abcdefghijklmnopqrstuvwxyz"))))))) mNilB))))
abbrev imM (Gix Git : List Dt → Res Dt) : SS → SO := (mSeq (mIfS (mOr (mNot (toB (mIsi "tuple" (mBor 1)))) (mCmp fNeA (mB (mBu fLen (mConsB (mBor 1) mNilB))) (mB (mC (.int 4))))) (mRet (mC (.bool false))) .nx)
    (mSeq (mAsg (gTupV 4 (gConsV (gNm 2) (gConsV (gNm 3) (gConsV (gNm 4) (gConsV (gNm 5) gNilV))))) (mVar 1))
    (mRet (vAnd (mRes Gix (mCons (mVar 0) (mCons (mVar 2) mNil))) (vAnd (mRes Git (mCons (mVar 3) mNil)) (vAnd (mRes Git (mCons (mVar 4) mNil)) (mRes Gix (mCons (mVar 0) (mCons (mVar 5) mNil)))))))))
abbrev inM (Gii Gas Gim : List Dt → Res Dt) : SS → SO := (mSeq (mIfS (mOr (mNot (toB (mRes Gii (mCons (mVar 1) mNil)))) (mCmp fLt (mBor 1) (mB (mC (.int 1))))) (fun _ => .no) .nx)
    (mSeq (mIfS (mNot (toB (mRes Gas (mCons (mVar 1) (mCons (mVar 2) mNil))))) (fun _ => .no) .nx)
    (mSeq (mIfS (mOr (mNot (toB (mIsi "tuple" (mBor 3)))) (mNot (toB (mBu fAll (mConsB (mB (mLc (mItems (mVar 3)) [5] (gNm 5) mYes (mRes Gim (mCons (mVar 1) (mCons (mVar 5) mNil))))) mNilB))))) (fun _ => .no) .nx)
    (mSeq (mIfS (mNot (toB (mRes Gas (mCons (mVar 1) (mCons (mVar 4) mNil))))) (fun _ => .no) .nx)
    (mSeq (mSetF 0 "Pacer" "size" (mVar 1))
    (mSeq (mSetF 0 "Pacer" "begins" (mVar 2))
    (mSeq (mSetF 0 "Pacer" "moves" (mVar 3))
    (mSetF 0 "Pacer" "ends" (mVar 4)))))))))
theorem ii_all (i : Int) : outF (iiM [some (.v (.int i))]) = .ok (.bool true) := by
  simp [iiM, mC, mVar, mBor, mB, mNil, mCons, mNilB, mConsB, mTup, mLst, fit, mFz, mOw, NV.sv, mSeq, mRet, mIfS, mDrop, mSet, mPar, ownL, mAppend, gNm, gNilV, gConsV, gTupV, mAsg, mItems, itemsD, mYes, mIf, mAnd, mOr, mNot, toB, vAnd, vOr, vNot, mBl, mCmp, mChain, two, mBin, mNeg, outF, startS, mRes, mResK, opsGet, mBu, mOu, mIsi, mPart, mPart0, mSl, mDict0, mM1, mM0, mMn, EO.bind, EO.lift, EO.st, Opd.get, EO.calm, wipeS, restS, isi_int, is_int, isi_bool, is_bool, plain1]
theorem ix_all {Gii : List Dt → Res Dt} (h : ∀ i : Int, Gii [.int i] = .ok (.bool true)) (n s : Nat) : outF (ixM Gii [some (.v (.int n)), some (.v (.int s))]) = .ok (.bool (decide (s < n))) := by
  by_cases hs : s < n <;> simp [ixM, mC, mVar, mBor, mB, mNil, mCons, mNilB, mConsB, mTup, mLst, fit, mFz, mOw, NV.sv, mSeq, mRet, mIfS, mDrop, mSet, mPar, ownL, mAppend, gNm, gNilV, gConsV, gTupV, mAsg, mItems, itemsD, mYes, mIf, mAnd, mOr, mNot, toB, vAnd, vOr, vNot, mBl, mCmp, mChain, two, mBin, mNeg, outF, startS, mRes, mResK, opsGet, mBu, mOu, mIsi, mPart, mPart0, mSl, mDict0, mM1, mM0, mMn, EO.bind, EO.lift, EO.st, Opd.get, EO.calm, wipeS, restS, h, fInt, hs]
/-- states, one above the other -/
structure StOk (n : Nat) (l : List Nat) : Prop where
  lt : ∀ s ∈ l, s < n
  up : l.Pairwise (· < ·)
  len : l.length ≤ 1000
theorem as_all {Gix : List Dt → Res Dt} {n : Nat} {l : List Nat} (h : ∀ s : Nat, Gix [.int n, .int s] = .ok (.bool (decide (s < n)))) (S : StOk n l) : outF (asM Gix [some (.v (.int n)), some (.v (natsD l)), none, none, none]) = .ok (.bool true) := by
  have sl : l.length ≤ sizeLine := Nat.le_trans S.len (by decide)
  have e1 := mLc_enc (m := mItems (mVar 1)) (vs := [4]) (g := gNm 4) (mt := mYes) (me := mRes Gix (mCons (mVar 0) (mCons (mVar 4) mNil))) (ss := [some (.v (.int n)), some (.v (natsD l)), none, none, none]) (fun s : Nat => (.int s : Dt)) (fun s => [some (.v (.int n)), some (.v (natsD l)), none, none, some (.v (.int s))]) (fun _ => true) (fun s => .bool (decide (s < n))) l (ss1 := [some (.v (.int n)), some (.v (natsD l)), none, none, none]) (s0 := [some (.v (.int n)), some (.v (natsD l)), none, none, none]) (ss2 := [some (.v (.int n)), some (.v (natsD l)), none, none, none]) (by rfl) (by rfl) (by rfl) (by intro s _; rfl) (by intro s _; rfl) (by intro s _ _; simp [mRes, mCons, mVar, mNil, EO.bind, h]) (by intro s _; rfl) sl
  rw [filt_true] at e1
  have a1 : (l.map fun s => decide (s < n)).all id = true := by
    rw [List.all_map, List.all_eq_true]
    intro s hs
    exact decide_eq_true (S.lt s hs)
  unfold asM
  rw [seq_nx (ss1 := [some (.v (.int n)), some (.v (natsD l)), none, none, none]) (by
    rw [if_ok (z := false) (ss1 := [some (.v (.int n)), some (.v (natsD l)), none, none, none]) (by
      have t1 : fIsi "tuple" (natsD l) = some true := by rw [isi_tuple]; rfl
      simp [mOr, mNot, toB, mIsi, mBor, EO.bind, EO.lift, Opd.get, t1, mBu, mConsB, mB, mNilB, e1, opsGet, fAll, boolsD_map, a1])]
    rfl)]
  have c1 : fSl (natsD l) (some 1) none = some (natsD (l.drop 1)) := by
    unfold natsD
    show some (PyData.tuple (cutG _ _ _)) = _
    congr 2
    unfold cutG
    have e : HT.sIx (l.map fun s : Nat => (.int s : Dt)).length 0 (some (1 : Int)) = min 1 l.length := by
      rw [show (1 : Int) = ((1 : Nat) : Int) from rfl, HT.sIx_nat, List.length_map]
    rw [e, HT.sIx_none, List.length_map]
    cases l with
    | nil => rfl
    | cons a l => simp [List.take_of_length_le]
  have z1 : ∀ (a b : List Nat), zipD (a.map fun s : Nat => (.int s : Dt)) (b.map fun s : Nat => (.int s : Dt)) = (a.zip b).map fun p => PyData.tuple [.int p.1, .int p.2] := by
    intro a
    induction a with
    | nil => intro b; rfl
    | cons x a ih =>
      intro b
      cases b with
      | nil => rfl
      | cons y b =>
        simp only [List.map_cons, zipD, List.zip_cons_cons]
        rw [ih b]
  have e2 := mLc_enc (m := mZip (mCons (mVar 1) (mCons (mSl (mBor 1) (mPart (mC (.int 1))) mPart0) mNil))) (vs := [2, 3]) (g := gTupV 2 (gConsV (gNm 2) (gConsV (gNm 3) gNilV))) (mt := mYes) (me := mBl (mCmp fLt (mBor 2) (mBor 3))) (ss := [some (.v (.int n)), some (.v (natsD l)), none, none, none]) (fun p : Nat × Nat => PyData.tuple [.int p.1, .int p.2]) (fun p => [some (.v (.int n)), some (.v (natsD l)), some (.v (.int p.1)), some (.v (.int p.2)), none]) (fun _ => true) (fun p => .bool (decide (p.1 < p.2))) (l.zip (l.drop 1)) (ss1 := [some (.v (.int n)), some (.v (natsD l)), none, none, none]) (s0 := [some (.v (.int n)), some (.v (natsD l)), none, none, none]) (ss2 := [some (.v (.int n)), some (.v (natsD l)), none, none, none]) (by
      simp only [mZip, mCons, mVar, mSl, mBor, mPart, mPart0, mC, mNil, EO.bind, EO.lift, Opd.get, List.getElem?_cons_zero, List.getElem?_cons_succ, Option.bind, c1]
      simp only [natsD, z1]) (by rfl) (by rfl) (by intro s _; rfl) (by intro s _; rfl) (by intro s _ _; simp [mBl, mCmp, mBor, EO.bind, EO.lift, two, Opd.get, fInt]) (by intro s _; rfl) (by rw [List.length_zip]; omega)
  rw [filt_true] at e2
  have a2 : ((l.zip (l.drop 1)).map fun p => decide (p.1 < p.2)).all id = true := by
    have key : ∀ l : List Nat, l.Pairwise (· < ·) → ((l.zip (l.drop 1)).map fun p => decide (p.1 < p.2)).all id = true := by
      intro l
      induction l with
      | nil => intro _; rfl
      | cons a l ih =>
        intro h
        cases l with
        | nil => rfl
        | cons b l =>
          have h2 := ih (List.pairwise_cons.mp h).2
          have h1 := (List.pairwise_cons.mp h).1 b (List.mem_cons_self ..)
          simp only [List.drop_succ_cons, List.drop_zero] at h2 ⊢
          simp only [List.zip_cons_cons, List.map_cons, List.all_cons, id, decide_eq_true h1, Bool.true_and]
          exact h2
    exact key l S.up
  have bm := boolsD_map (fun p : Nat × Nat => decide (p.1 < p.2)) (l.zip (l.drop 1))
  simp only [mRet, mBu, mConsB, mB, mNilB, e2, EO.bind, EO.st, EO.lift, opsGet, Opd.get, Option.bind, fAll, bm, Option.map, a2, outF]
def letC (c : Nat) : Bool := decide (c ∈ ("abcdefghijklmnopqrstuvwxyz" : Str).cps.toList)
theorem it_all {z : Str} (hz : z.length ≤ sizeLine) (hl : z.cps.toList.all letC = true) : outF (itM [some (.v (.str z)), none]) = .ok (.bool true) := by
  have e1 := mLc_enc (m := mItems (mVar 0)) (vs := [1]) (g := gNm 1) (mt := mYes) (me := mBl (mCmp fInA (mBor 1) (mB (mC (.str "abcdefghijklmnopqrstuvwxyz"))))) (ss := [some (.v (.str z)), none]) (fun c : Nat => (.str ⟨#[c]⟩ : Dt)) (fun c => [some (.v (.str z)), some (.v (.str ⟨#[c]⟩))]) (fun _ => true) (fun c => .bool (letC c)) z.cps.toList (ss1 := [some (.v (.str z)), none]) (s0 := [some (.v (.str z)), none]) (ss2 := [some (.v (.str z)), none]) (by simp only [mItems, mVar, List.getElem?_cons_zero, EO.bind, EO.lift, itemsD]; rfl) (by rfl) (by rfl) (by intro s _; rfl) (by intro s _; rfl) (by intro s _ _; rfl) (by intro s _; rfl) (by rw [len_cps]; exact hz)
  rw [filt_true] at e1
  have a1 : (z.cps.toList.map letC).all id = true := by
    rw [List.all_map]
    exact hl
  have t1 : fIsi "str" (.str z) = some true := by rw [isi_str]; rfl
  simp [itM, mRet, vAnd, mIsi, mBor, EO.bind, EO.st, EO.lift, Opd.get, t1, mBu, mConsB, mB, mNilB, e1, opsGet, fAll, boolsD_map, a1, outF]
/-- a word: its signs are letters -/
def letW (z : Str) : Bool := z.cps.toList.all letC && decide (z.length ≤ 1000)
theorem im_all {Gix Git : List Dt → Res Dt} {n : Nat} {m : Mv} (h : ∀ s : Nat, Gix [.int n, .int s] = .ok (.bool (decide (s < n)))) (h2 : ∀ z : Str, letW z = true → Git [.str z] = .ok (.bool true)) (hp : m.p < n) (hq : m.q < n) (hu : letW m.u = true) (hv : letW m.v = true) : outF (imM Gix Git [some (.v (.int n)), some (.v (mvD m)), none, none, none, none]) = .ok (.bool true) := by
  have t1 : fIsi "tuple" (mvD m) = some true := by rw [isi_tuple]; rfl
  have t2 : fLen [mvD m] = some (.int 4) := rfl
  have t3 : fNeA (.int 4) (.int 4) = some false := by
    show fNe (.int 4) (.int 4) = _
    rw [fNe_int]
    rfl
  unfold imM
  rw [seq_nx (ss1 := [some (.v (.int n)), some (.v (mvD m)), none, none, none, none]) (by
    rw [if_ok (z := false) (ss1 := [some (.v (.int n)), some (.v (mvD m)), none, none, none, none]) (by
      simp [mOr, mNot, toB, mIsi, mBor, EO.bind, EO.lift, Opd.get, t1, mCmp, mB, mC, mBu, mConsB, mNilB, opsGet, t2, two, t3])]
    rfl)]
  rw [seq_nx (ss1 := [some (.v (.int n)), some (.v (mvD m)), some (.v (.int m.p)), some (.v (.str m.u)), some (.v (.str m.v)), some (.v (.int m.q))]) (by rfl)]
  simp [mRet, vAnd, mRes, mCons, mVar, mNil, EO.bind, EO.st, h, h2, hp, hq, hu, hv, outF]
/-- a pacer that can be made -/
structure PcOk (n : Nat) (b : List Nat) (mv : List Mv) (e : List Nat) : Prop where
  n1 : 1 ≤ n
  hb : StOk n b
  he : StOk n e
  hm : ∀ m ∈ mv, m.p < n ∧ m.q < n ∧ letW m.u = true ∧ letW m.v = true
  l : mv.length ≤ 1000
theorem in_all {Gii Gas Gim : List Dt → Res Dt} {n : Nat} {b e : List Nat} {mv : List Mv} (P : PcOk n b mv e) (h1 : ∀ i : Int, Gii [.int i] = .ok (.bool true)) (h2 : ∀ l, StOk n l → Gas [.int n, natsD l] = .ok (.bool true)) (h3 : ∀ m ∈ mv, Gim [.int n, mvD m] = .ok (.bool true)) :
    outZ (inM Gii Gas Gim [some (.se 0 (ins "Pacer" [] [])), some (.v (.int n)), some (.v (natsD b)), some (.v (.tuple (mv.map mvD))), some (.v (natsD e)), none]) = .ok .none (pcD n b mv e) := by
  have sl : mv.length ≤ sizeLine := Nat.le_trans P.l (by decide)
  have n1 := P.n1
  obtain ⟨S0, eS⟩ : ∃ S0 : SS, S0 = [some (.se 0 (ins "Pacer" [] [])), some (.v (.int n)), some (.v (natsD b)), some (.v (.tuple (mv.map mvD))), some (.v (natsD e)), none] := ⟨_, rfl⟩
  rw [← eS]
  have c1 : mOr (mNot (toB (mRes Gii (mCons (mVar 1) mNil)))) (mCmp fLt (mBor 1) (mB (mC (.int 1)))) S0 = .ok false S0 := by
    subst eS
    have : ¬ (n : Int) < 1 := by omega
    simp [mOr, mNot, toB, mRes, mCons, mVar, mNil, EO.bind, h1, mCmp, mBor, mB, mC, two, Opd.get, EO.lift, fInt, this]
  have c2 : mNot (toB (mRes Gas (mCons (mVar 1) (mCons (mVar 2) mNil)))) S0 = .ok false S0 := by
    subst eS
    simp [mNot, toB, mRes, mCons, mVar, mNil, EO.bind, h2 b P.hb]
  have c4 : mNot (toB (mRes Gas (mCons (mVar 1) (mCons (mVar 4) mNil)))) S0 = .ok false S0 := by
    subst eS
    simp [mNot, toB, mRes, mCons, mVar, mNil, EO.bind, h2 e P.he]
  have c3 : mOr (mNot (toB (mIsi "tuple" (mBor 3)))) (mNot (toB (mBu fAll (mConsB (mB (mLc (mItems (mVar 3)) [5] (gNm 5) mYes (mRes Gim (mCons (mVar 1) (mCons (mVar 5) mNil))))) mNilB)))) S0 = .ok false S0 := by
    subst eS
    have e1 := mLc_enc (m := mItems (mVar 3)) (vs := [5]) (g := gNm 5) (mt := mYes) (me := mRes Gim (mCons (mVar 1) (mCons (mVar 5) mNil))) (ss := [some (.se 0 (ins "Pacer" [] [])), some (.v (.int n)), some (.v (natsD b)), some (.v (.tuple (mv.map mvD))), some (.v (natsD e)), none]) mvD (fun m => [some (.se 0 (ins "Pacer" [] [])), some (.v (.int n)), some (.v (natsD b)), some (.v (.tuple (mv.map mvD))), some (.v (natsD e)), some (.v (mvD m))]) (fun _ => true) (fun _ => .bool true) mv (ss1 := [some (.se 0 (ins "Pacer" [] [])), some (.v (.int n)), some (.v (natsD b)), some (.v (.tuple (mv.map mvD))), some (.v (natsD e)), none]) (s0 := [some (.se 0 (ins "Pacer" [] [])), some (.v (.int n)), some (.v (natsD b)), some (.v (.tuple (mv.map mvD))), some (.v (natsD e)), none]) (ss2 := [some (.se 0 (ins "Pacer" [] [])), some (.v (.int n)), some (.v (natsD b)), some (.v (.tuple (mv.map mvD))), some (.v (natsD e)), none]) (by rfl) (by rfl) (by rfl) (by intro s _; rfl) (by intro s _; rfl) (by intro m hm _; simp [mRes, mCons, mVar, mNil, EO.bind, h3 m hm]) (by intro s _; rfl) sl
    rw [filt_true] at e1
    have t1 : fIsi "tuple" (.tuple (mv.map mvD)) = some true := by rw [isi_tuple]; rfl
    have bm := boolsD_map (fun _ : Mv => true) mv
    simp [mOr, mNot, toB, mIsi, mBor, EO.bind, EO.lift, Opd.get, t1, mBu, mConsB, mB, mNilB, e1, opsGet, fAll, bm]
  unfold inM
  rw [seq_nx (ss1 := S0) (by rw [if_ok c1]; rfl), seq_nx (ss1 := S0) (by rw [if_ok c2]; rfl), seq_nx (ss1 := S0) (by rw [if_ok c3]; rfl), seq_nx (ss1 := S0) (by rw [if_ok c4]; rfl)]
  subst eS
  rfl
end VL

namespace VL
open PySem PySem.Spec L2
open PyProof.Rows hiding St
variable [WW]
abbrev dwM (c1 c2 : Int) : SS → SO := (mSeq (mDkSet 0 (mBin gAdd (mB (mDkI 0 2)) (mB (mC (.int 1)))))
    (mSeq (mSet 2 (mFz (mBin gAdd (mB (mDkI 0 1)) (mB (mBin gMulA (mB (mBin gMulA (mB (mC (.int c1))) (mB (mDkI 0 2)))) (mB (mDkI 0 2)))))))
    (mSeq (mIfS (mDkNe 0) (mSeq (mSet 3 (mFz (mDkPop 0)))
    (mSeq (mIfS (mCmp fGe (mBor 3) (mB (mBin gPow (mB (mC (.int 10))) (mB (mC (.int 18)))))) (mSeq (mDkApp 0 3 1)
    (mRet (mBin gMod (mB (mBu fInt1 (mConsB (mBor 3) mNilB))) (mBor 1)))) .nx)
    (mSet 2 (mFz (mBin gAdd (mBor 2) (mBor 3)))))) .nx)
    (mSeq (mSet 2 (mFz (mBin gMod (mB (mBin gMulA (mB (mBin gMod (mB (mBu fInt1 (mConsB (mBor 2) mNilB))) (mB (mC (.int 2147483587))))) (mB (mC (.int 48271))))) (mB (mC (.int 2147483647))))))
    (mSeq (mSet 2 (mFz (mBin gMod (mB (mBu fInt1 (mConsB (mB (mBin gAdd (mB (mBin gAdd (mB (mBin gMulA (mBor 2) (mBor 2))) (mB (mBin gMulA (mB (mC (.int 69621))) (mB (mDkI 0 2)))))) (mB (mC (.int c2))))) mNilB))) (mB (mC (.int 2147483549))))))
    (mRet (mBin gMod (mB (mBin gDiv (mB (mBin gMod (mB (mBu fInt1 (mConsB (mB (mBin gMulA (mBor 2) (mB (mC (.int 39373))))) mNilB))) (mB (mC (.int 2147483629))))) (mB (mC (.int 64))))) (mBor 1))))))))
abbrev pkM (G : Dk → List Dt → Res (Dt × Dk)) : SS → SO := (mRet (mBin fIx (mBor 1) (mB (mDraw 0 G (mCons (mBu fLen (mConsB (mBor 1) mNilB)) mNil)))))
abbrev wdM (G Gp : Dk → List Dt → Res (Dt × Dk)) : SS → SO := (mRet (mM1 fJoin (mB (mC (.str ""))) (mB (mLc (mRng1 (mCons (mDraw 0 G (mCons (mBin gAdd (mBor 2) (mB (mC (.int 1)))) mNil)) mNil)) [3] (gNm 3) mYes (mDraw 0 Gp (mCons (mVar 1) mNil))))))
theorem addI (i j : Int) : gAdd (.int i) (.int j) = some (.int (i + j)) := rfl
theorem modI {j : Int} (i : Int) (h : 0 < j) : gMod (.int i) (.int j) = some (.int (i % j)) := by
  show (if 0 < j then some (i % j) else none).map PyData.int = _
  rw [if_pos h]
  rfl
theorem divI {j : Int} (i : Int) (h : 0 < j) (h2 : j < 1073741824) : gDiv (.int i) (.int j) = some (.int (i / j)) := by
  show (if 0 < j ∧ j < 1073741824 then some (i / j) else none).map PyData.int = _
  rw [if_pos ⟨h, h2⟩]
  rfl
theorem gMulA_int {i j z : Int} (h : gMul (.int i) (.int j) = some (.int z)) : gMulA (.int i) (.int j) = some (.int z) := by
  unfold gMulA alt
  rw [h]
theorem mulR {j : Int} (i : Int) (h : -(2 ^ 64) < j) (h2 : j < 2 ^ 64) : gMulA (.int i) (.int j) = some (.int (i * j)) := by
  apply gMulA_int
  simp only [gMul, gInt]
  rw [if_pos (.inr ⟨h, h2⟩)]
  rfl
theorem mulL {i : Int} (j : Int) (h : -(2 ^ 64) < i) (h2 : i < 2 ^ 64) : gMulA (.int i) (.int j) = some (.int (i * j)) := by
  apply gMulA_int
  simp only [gMul, gInt]
  rw [if_pos (.inl ⟨h, h2⟩)]
  rfl
theorem dw_all {c1 c2 : Int} (hc1 : -(2 ^ 64) < c1 ∧ c1 < 2 ^ 64) {q : List Int} {b c n : Int} (hn : 0 < n) (hn2 : n < 1073741824) (hc : 0 ≤ c) (hc2 : c < 2 ^ 60) (hq : q.length ≤ 100) : ∃ r q' b', outX (dwM c1 c2 [some (.dk 0 q b c), some (.v (.int n)), none, none]) = .ok (.int r, (q', b', c + 1)) ∧ 0 ≤ r ∧ r < n ∧ q'.length ≤ q.length := by
  have sq : q.length ≤ sizeLine := Nat.le_trans hq (by decide)
  have m1 : gMulA (.int c1) (.int (c + 1)) = some (.int (c1 * (c + 1))) := mulL _ hc1.1 hc1.2
  have m2 : gMulA (.int (c1 * (c + 1))) (.int (c + 1)) = some (.int (c1 * (c + 1) * (c + 1))) := mulR _ (by omega) (by omega)
  have m3 : ∀ x : Int, gMulA (.int (x % 2147483587)) (.int 48271) = some (.int (x % 2147483587 * 48271)) := fun x => mulR _ (by decide) (by decide)
  have m4 : ∀ x : Int, gMulA (.int (x % 2147483647)) (.int (x % 2147483647)) = some (.int (x % 2147483647 * (x % 2147483647))) := fun x => mulR _ (by omega) (by omega)
  have m5 : gMulA (.int 69621) (.int (c + 1)) = some (.int (69621 * (c + 1))) := mulL _ (by decide) (by decide)
  have m6 : ∀ x : Int, gMulA (.int x) (.int 39373) = some (.int (x * 39373)) := fun x => mulR _ (by decide) (by decide)
  have p1 : gPow (.int 10) (.int 18) = some (.int 1000000000000000000) := by
    simp only [gPow, gInt]
    rw [if_pos (by decide)]
    rfl
  have d1 : ∀ x : Int, gMod (.int x) (.int 2147483587) = some (.int (x % 2147483587)) := fun x => modI x (by decide)
  have d2 : ∀ x : Int, gMod (.int x) (.int 2147483647) = some (.int (x % 2147483647)) := fun x => modI x (by decide)
  have d3 : ∀ x : Int, gMod (.int x) (.int 2147483549) = some (.int (x % 2147483549)) := fun x => modI x (by decide)
  have d4 : ∀ x : Int, gMod (.int x) (.int 2147483629) = some (.int (x % 2147483629)) := fun x => modI x (by decide)
  have d5 : ∀ x : Int, gDiv (.int x) (.int 64) = some (.int (x / 64)) := fun x => divI x (by decide) (by decide)
  have d6 : ∀ x : Int, gMod (.int x) (.int n) = some (.int (x % n)) := fun x => modI x hn
  have rn : ∀ x : Int, 0 ≤ x % n ∧ x % n < n := fun x => ⟨Int.emod_nonneg _ (by omega), Int.emod_lt_of_pos _ hn⟩
  cases hql : q.getLast? with
  | none =>
    have e : q = [] := List.getLast?_eq_none_iff.mp hql
    subst e
    simp [dwM, outX, dkAny, mDkSet, mDkI, mDkNe, mDkPop, mDkApp, dkOf, mC, mVar, mBor, mB, mNil, mCons, mNilB, mConsB, mTup, mLst, fit, mFz, mOw, NV.sv, mSeq, mRet, mIfS, mDrop, mSet, mPar, ownL, mAppend, gNm, gNilV, gConsV, gTupV, mAsg, mItems, itemsD, mRng1, mFor, mLc, mYes, mIf, mAnd, mOr, mNot, toB, vAnd, vOr, vNot, mBl, mCmp, mChain, two, alt, mBin, mNeg, outF, startS, mRes, mResK, opsGet, mBu, mOu, mIsi, mPart, mPart0, mSl, mDict0, mM1, mM0, mMn, EO.bind, EO.lift, EO.st, Opd.get, EO.calm, wipeS, restS, addI, m1, m2, m3, m4, m5, m6, d1, d2, d3, d4, d5, d6, fInt1]
    exact ⟨_, [], ⟨rfl, rfl⟩, (rn _).1, (rn _).2, rfl⟩
  | some z =>
    have hl : q.dropLast.length + 1 = q.length := by
      have : q ≠ [] := by intro e; subst e; simp at hql
      rw [List.length_dropLast]
      have := List.length_pos_iff.mpr this
      omega
    have ne : q ≠ [] := by intro e; subst e; simp at hql
    have gl : q.getLast ne = z := by
      have := List.getLast?_eq_some_getLast ne
      rw [hql] at this
      exact (Option.some.inj this).symm
    have g1 : fGe (.int z) (.int 1000000000000000000) = some (decide ((1000000000000000000 : Int) ≤ z)) := rfl
    have c1' : 0 < n ∧ n < 1073741824 ∧ q.dropLast.length < sizeLine := ⟨hn, hn2, by omega⟩
    by_cases hz : (1000000000000000000 : Int) ≤ z
    · simp [dwM, outX, dkAny, mDkSet, mDkI, mDkNe, mDkPop, mDkApp, dkOf, mC, mVar, mBor, mB, mNil, mCons, mNilB, mConsB, mTup, mLst, fit, mFz, mOw, NV.sv, mSeq, mRet, mIfS, mDrop, mSet, mPar, ownL, mAppend, gNm, gNilV, gConsV, gTupV, mAsg, mItems, itemsD, mRng1, mFor, mLc, mYes, mIf, mAnd, mOr, mNot, toB, vAnd, vOr, vNot, mBl, mCmp, mChain, two, alt, mBin, mNeg, outF, startS, mRes, mResK, opsGet, mBu, mOu, mIsi, mPart, mPart0, mSl, mDict0, mM1, mM0, mMn, EO.bind, EO.lift, EO.st, Opd.get, EO.calm, wipeS, restS, addI, m1, m2, m3, m4, m5, m6, d1, d2, d3, d4, d5, d6, fInt1, hql, hz, p1, ne, g1, c1', -List.length_dropLast]
      refine ⟨_, _, ⟨rfl, rfl⟩, (rn _).1, (rn _).2, ?_⟩
      simp
      omega
    · simp [dwM, outX, dkAny, mDkSet, mDkI, mDkNe, mDkPop, mDkApp, dkOf, mC, mVar, mBor, mB, mNil, mCons, mNilB, mConsB, mTup, mLst, fit, mFz, mOw, NV.sv, mSeq, mRet, mIfS, mDrop, mSet, mPar, ownL, mAppend, gNm, gNilV, gConsV, gTupV, mAsg, mItems, itemsD, mRng1, mFor, mLc, mYes, mIf, mAnd, mOr, mNot, toB, vAnd, vOr, vNot, mBl, mCmp, mChain, two, alt, mBin, mNeg, outF, startS, mRes, mResK, opsGet, mBu, mOu, mIsi, mPart, mPart0, mSl, mDict0, mM1, mM0, mMn, EO.bind, EO.lift, EO.st, Opd.get, EO.calm, wipeS, restS, addI, m1, m2, m3, m4, m5, m6, d1, d2, d3, d4, d5, d6, fInt1, hql, hz, p1, ne, g1, c1', -List.length_dropLast]
      refine ⟨_, _, ⟨rfl, rfl⟩, (rn _).1, (rn _).2, ?_⟩
      simp
def Fine (k : Nat) (D : Dk) : Prop := D.1.length ≤ 100 ∧ 0 ≤ D.2.2 ∧ D.2.2 ≤ (k : Int)
theorem Fine.up {k l : Nat} {D : Dk} (h : Fine k D) (hl : k ≤ l) : Fine l D := ⟨h.1, h.2.1, by have := h.2.2; omega⟩
abbrev dkS (D : Dk) : Option SV := some (.dk 0 D.1 D.2.1 D.2.2)
def DrawOk (G : Dk → List Dt → Res (Dt × Dk)) : Prop := ∀ (D : Dk) (k n : Nat), Fine k D → k < 1000000 → 0 < n → n < 1000000 → ∃ (r : Nat) (D' : Dk), G D [.int n] = .ok (.int r, D') ∧ r < n ∧ Fine (k + 1) D'
theorem draw_ok {c1 c2 : Int} (hc1 : -(2 ^ 64) < c1 ∧ c1 < 2 ^ 64) {G : Dk → List Dt → Res (Dt × Dk)} (hG : ∀ (D : Dk) (n : Int), G D [.int n] = outX (dwM c1 c2 [dkS D, some (.v (.int n)), none, none])) : DrawOk G := by
  intro D k n h hk hn hn2
  obtain ⟨q, b, c⟩ := D
  obtain ⟨h1, h2, h3⟩ := h
  dsimp at h1 h2 h3
  obtain ⟨r, q', b', e, r1, r2, l⟩ := dw_all (c1 := c1) (c2 := c2) hc1 (b := b) (n := (n : Int)) (by omega) (by omega) h2 (by omega) h1
  obtain ⟨m, rfl⟩ := Int.eq_ofNat_of_zero_le r1
  exact ⟨m, (q', b', c + 1), by rw [hG]; exact e, by omega, by dsimp; omega, by dsimp; omega, by dsimp; omega⟩
def PickOk (G : Dk → List Dt → Res (Dt × Dk)) : Prop := ∀ (D : Dk) (k : Nat) (d0 : Dt) (ds : List Dt), (d0 = .list ds ∨ d0 = .tuple ds ∨ ∃ cs : List Nat, d0 = .str (txt cs) ∧ ds = cs.map signD) → Fine k D → k < 1000000 → 0 < ds.length → ds.length < 100000 → ∃ (d : Dt) (D' : Dk), G D [d0] = .ok (d, D') ∧ d ∈ ds ∧ Fine (k + 1) D'
theorem pick_ok {G Gp : Dk → List Dt → Res (Dt × Dk)} (h : DrawOk G) (hG : ∀ (D : Dk) (d : Dt), Gp D [d] = outX (pkM G [dkS D, some (.v d)])) : PickOk Gp := by
  intro D k d0 ds hd hF hk hn hn2
  obtain ⟨r, D', e, r1, f⟩ := h D k ds.length hF hk hn (by omega)
  have e2 : fIx d0 (.int (r : Nat)) = some ds[r] := by
    rcases hd with rfl | rfl | ⟨cs, rfl, rfl⟩
    · exact atI_nat (List.getElem?_eq_getElem r1)
    · exact atI_nat (List.getElem?_eq_getElem r1)
    · have hl : (txt cs).length = cs.length := rfl
      have hc : r < cs.length := by simpa using r1
      rw [List.length_map] at hn2
      show (if (txt cs).length ≤ sizeLine then (atI cs (r : Int)).map signD else none) = _
      rw [if_pos (Nat.le_trans (show (txt cs).length ≤ 100000 by rw [hl]; omega) (by decide)), show atI cs (r : Int) = some cs[r] from atI_nat (List.getElem?_eq_getElem hc)]
      simp
  have e3 : fLen [d0] = some (.int ds.length) := by
    rcases hd with rfl | rfl | ⟨cs, rfl, rfl⟩
    · rfl
    · rfl
    · have hl : (txt cs).length = cs.length := rfl
      rw [List.length_map] at hn2 ⊢
      show (if (txt cs).length ≤ sizeLine then some (PyData.int (txt cs).length) else none) = _
      rw [if_pos (Nat.le_trans (show (txt cs).length ≤ 100000 by rw [hl]; omega) (by decide)), hl]
  refine ⟨ds[r], D', ?_, List.getElem_mem r1, f⟩
  obtain ⟨q, b, c⟩ := D
  obtain ⟨q', b', c'⟩ := D'
  rw [hG]
  simp [pkM, outX, dkAny, mDraw, e, e2, e3, mC, mVar, mBor, mB, mNil, mCons, mNilB, mConsB, mTup, mLst, fit, mFz, mOw, NV.sv, mSeq, mRet, mIfS, mDrop, mSet, mPar, ownL, mAppend, gNm, gNilV, gConsV, gTupV, mAsg, mItems, itemsD, mRng1, mFor, mLc, mYes, mIf, mAnd, mOr, mNot, toB, vAnd, vOr, vNot, mBl, mCmp, mChain, two, alt, mBin, mNeg, outF, startS, mRes, mResK, opsGet, mBu, mOu, mIsi, mPart, mPart0, mSl, mDict0, mM1, mM0, mMn, EO.bind, EO.lift, EO.st, Opd.get, EO.calm, wipeS, restS]

theorem sum_ones (l : List Nat) : (l.map fun c => (⟨#[c]⟩ : Str)).map (·.length) = l.map fun _ => 1 := by
  rw [List.map_map]
  rfl
theorem sum_ones2 : ∀ l : List Nat, (l.map fun _ => 1).sum = l.length
  | [] => rfl
  | _ :: l => by
    rw [List.map_cons, List.sum_cons, sum_ones2 l, List.length_cons]
    omega
theorem join_fst (l : List Nat) (hl : l.length ≤ 5000) : fJoin [.str "", .list (l.map signD)] = some (.str (txt l)) := by
  show (textsD (l.map signD)).bind (joinD "") = _
  have e : textsD (l.map signD) = some (l.map fun c => ⟨#[c]⟩) := textsD_map (fun c => (⟨#[c]⟩ : Str)) l
  rw [e]
  show (if ((l.map fun c => (⟨#[c]⟩ : Str)).map (·.length)).sum + (l.map fun c => (⟨#[c]⟩ : Str)).length * ("" : Str).length ≤ 16777216 then some (PyData.str (Txt.join "" (l.map fun c => ⟨#[c]⟩))) else none) = _
  rw [sum_ones, sum_ones2, join_signs, if_pos]
  have : ("" : Str).length = 0 := rfl
  rw [this]
  omega
theorem word_loop {Gp : Dk → List Dt → Res (Dt × Dk)} (hp : PickOk Gp) {cs0 : List Nat} (h0 : 0 < cs0.length) (h1 : cs0.length < 1000) (t : Int) : ∀ (items : List Dt) (k : Nat) (D : Dk) (acc : List Dt), Fine k D → k + items.length < 1000000 → acc.length + items.length ≤ 1000 →
    ∃ (cs : List Nat) (D' : Dk), lcGo [3] (gNm 3) mYes (mDraw 0 Gp (mCons (mVar 1) mNil)) items [dkS D, some (.v (.str (txt cs0))), some (.v (.int t)), none] acc = .ok (acc ++ cs.map signD) [dkS D', some (.v (.str (txt cs0))), some (.v (.int t)), none] ∧ cs.length = items.length ∧ (∀ c ∈ cs, c ∈ cs0) ∧ Fine (k + items.length) D'
  | [], k, D, acc, h, _, _ => ⟨[], D, by simp [lcGo], rfl, fun _ h => (by cases h), h⟩
  | d :: items, k, D, acc, h, hk, ha => by
    rw [List.length_cons] at hk ha
    obtain ⟨z, D1, e, hz, f⟩ := hp D k (.str (txt cs0)) (cs0.map signD) (.inr (.inr ⟨cs0, rfl, rfl⟩)) h (by omega) (by simpa using h0) (by rw [List.length_map]; omega)
    obtain ⟨c, hc, rfl⟩ := List.mem_map.mp hz
    have hsz : acc.length < sizeLine := Nat.lt_of_lt_of_le (show acc.length < 1001 by omega) (by decide)
    obtain ⟨cs, D2, e2, l, w, f2⟩ := word_loop hp h0 h1 t items (k + 1) D1 (acc ++ [signD c]) f (by omega) (by simp; omega)
    refine ⟨c :: cs, D2, ?_, by simp [l], ?_, by rw [List.length_cons]; exact f2.up (by omega)⟩
    · rw [lcGo]
      obtain ⟨q, b, n⟩ := D
      obtain ⟨q1, b1, n1⟩ := D1
      simp [mDraw, e, mC, mVar, mBor, mB, mNil, mCons, mNilB, mConsB, mTup, mLst, fit, mFz, mOw, NV.sv, mSeq, mRet, mIfS, mDrop, mSet, mPar, ownL, mAppend, gNm, gNilV, gConsV, gTupV, mAsg, mItems, itemsD, mRng1, mFor, mLc, mYes, mIf, mAnd, mOr, mNot, toB, vAnd, vOr, vNot, mBl, mCmp, mChain, two, alt, mBin, mNeg, outF, startS, mRes, mResK, opsGet, mBu, mOu, mIsi, mPart, mPart0, mSl, mDict0, mM1, mM0, mMn, EO.bind, EO.lift, EO.st, Opd.get, EO.calm, wipeS, restS, hsz]
      simpa using e2
    · intro c' hc'
      rcases List.mem_cons.mp hc' with rfl | hc'
      · exact hc
      · exact w c' hc'
def WordOk (Gw : Dk → List Dt → Res (Dt × Dk)) : Prop := ∀ (D : Dk) (k t : Nat) (cs0 : List Nat), Fine k D → k < 900000 → t ≤ 100 → 0 < cs0.length → cs0.length < 1000 → ∃ cs D', Gw D [.str (txt cs0), .int t] = .ok (.str (txt cs), D') ∧ cs.length ≤ t ∧ (∀ c ∈ cs, c ∈ cs0) ∧ Fine (k + t + 1) D'
theorem word_ok {G Gp Gw : Dk → List Dt → Res (Dt × Dk)} (hd : DrawOk G) (hp : PickOk Gp) (hG : ∀ (D : Dk) (d e : Dt), Gw D [d, e] = outX (wdM G Gp [dkS D, some (.v d), some (.v e), none])) : WordOk Gw := by
  intro D k t cs0 h hk ht h0 h1
  obtain ⟨n, D1, e, r1, f⟩ := hd D k (t + 1) h (by omega) (by omega) (by omega)
  have hr : (rangeD 0 n).length = n := by simp [rangeD]
  obtain ⟨cs, D2, e2, l, w, f2⟩ := word_loop hp h0 h1 t (rangeD 0 n) (k + 1) D1 [] f (by omega) (by simp [hr]; omega)
  rw [hr] at l f2
  refine ⟨cs, D2, ?_, by omega, w, f2.up (by omega)⟩
  have s6 : small62 (n : Int) := ⟨by omega, by omega⟩
  have j : fJoin [.str "", .list (cs.map signD)] = some (.str (txt cs)) := join_fst cs (by omega)
  have ea : gAdd (.int t) (.int 1) = some (.int ((t : Int) + 1)) := rfl
  have e' : G D [.int ((t : Int) + 1)] = .ok (.int n, D1) := e
  obtain ⟨q, b, c⟩ := D
  obtain ⟨q1, b1, c1⟩ := D1
  obtain ⟨q2, b2, c2⟩ := D2
  dsimp at e2
  rw [hG]
  unfold wdM
  generalize mDraw 0 Gp (mCons (mVar 1) mNil) = B at e2 ⊢
  simp [outX, dkAny, mDraw, e', mC, mVar, mBor, mB, mNil, mCons, mNilB, mConsB, mTup, mLst, fit, mFz, mOw, NV.sv, mSeq, mRet, mIfS, mDrop, mSet, mPar, ownL, mAppend, gNm, gNilV, gConsV, gTupV, mAsg, mItems, itemsD, mRng1, mFor, mLc, mYes, mIf, mAnd, mOr, mNot, toB, vAnd, vOr, vNot, mBl, mCmp, mChain, two, alt, mBin, mNeg, outF, startS, mRes, mResK, opsGet, mBu, mOu, mIsi, mPart, mPart0, mSl, mDict0, mM1, mM0, mMn, EO.bind, EO.lift, EO.st, Opd.get, EO.calm, wipeS, restS, ea, s6, e2, j]
end VL

namespace VL
open PySem PySem.Spec L2
open PyProof.Rows hiding St
variable [WW]
abbrev plBody (G Gw : Dk → List Dt → Res (Dt × Dk)) : SS → SO := (mSeq (mSet 8 (mFz (mDraw 0 G (mCons (mVar 4) mNil))))
    (mAppend 5 (mTup (mCons (mVar 8) (mCons (mDraw 0 Gw (mCons (mC (.str "ab")) (mCons (mVar 3) mNil))) (mCons (mDraw 0 Gw (mCons (mC (.str "ab")) (mCons (mVar 3) mNil))) (mCons (mDraw 0 G (mCons (mVar 4) mNil)) mNil)))))))
abbrev plRest (G : Dk → List Dt → Res (Dt × Dk)) : SS → SO := (mSeq (mSet 7 (mFz (mBu fTup (mConsB (mB (mLc (mRng1 (mCons (mVar 4) mNil)) [9] (gNm 9) (mCmp fEqA (mB (mDraw 0 G (mCons (mC (.int 2)) mNil))) (mB (mC (.int 0)))) (mVar 9))) mNilB))))
    (mRet (mDisp (mDCons (mC (.str "wide")) (mVar 4) (mDCons (mC (.str "in")) (mBu fTup (mConsB (mB (mLc (mRng1 (mCons (mVar 4) mNil)) [9] (gNm 9) (mCmp fEqA (mB (mDraw 0 G (mCons (mC (.int 2)) mNil))) (mB (mC (.int 0)))) (mVar 9))) mNilB)) (mDCons (mC (.str "ways")) (mVar 5) (mDCons (mC (.str "out")) (mVar 7) mDNil)))))))
abbrev plM (G Gw : Dk → List Dt → Res (Dt × Dk)) : SS → SO := (mSeq (mSet 4 (mFz (mBin gAdd (mB (mC (.int 1))) (mB (mDraw 0 G (mCons (mVar 1) mNil))))))
    (mSeq (mSet 5 (mOw (mLst mNil)))
    (mSeq (mFor (mRng1 (mCons (mDraw 0 G (mCons (mBin gAdd (mBor 2) (mB (mC (.int 1)))) mNil)) mNil)) (gNm 6) (plBody G Gw))
    (plRest G))))
theorem dk_eta (D : Dk) : (D.1, D.2.1, D.2.2) = D := rfl
theorem draw_at {G : Dk → List Dt → Res (Dt × Dk)} {m : SS → EO (List Dt)} {D D' : Dk} {r : List (Option SV)} {ds : List Dt} {d : Dt} (hm : m (dkS D :: r) = .ok ds (dkS D :: r)) (h : G D ds = .ok (d, D')) : mDraw 0 G m (dkS D :: r) = .ok d (dkS D' :: r) := by
  obtain ⟨q, b, c⟩ := D
  obtain ⟨q', b', c'⟩ := D'
  simp [mDraw, hm, EO.bind, h]
/-- one of the states, by lot -/
theorem lots {G : Dk → List Dt → Res (Dt × Dk)} (hd : DrawOk G) (a1 a2 a3 a4 a5 a6 a7 a8 : Option SV) : ∀ (l : List Nat) (k : Nat) (D : Dk) (acc : List Dt), Fine k D → k + l.length < 1000000 → acc.length + l.length ≤ 1000 →
    ∃ (l' : List Nat) (D' : Dk), lcGo [9] (gNm 9) (mCmp fEqA (mB (mDraw 0 G (mCons (mC (.int 2)) mNil))) (mB (mC (.int 0)))) (mVar 9) (l.map fun s : Nat => (.int s : Dt)) [dkS D, a1, a2, a3, a4, a5, a6, a7, a8, none] acc = .ok (acc ++ l'.map fun s : Nat => (.int s : Dt)) [dkS D', a1, a2, a3, a4, a5, a6, a7, a8, none] ∧ l'.Sublist l ∧ Fine (k + l.length) D'
  | [], k, D, acc, h, _, _ => ⟨[], D, by simp [lcGo], .slnil, h⟩
  | s :: l, k, D, acc, h, hk, ha => by
    rw [List.length_cons] at hk ha
    obtain ⟨r, D1, e, r1, f⟩ := hd D k 2 h (by omega) (by omega) (by omega)
    have hsz : acc.length < sizeLine := Nat.lt_of_lt_of_le (show acc.length < 1001 by omega) (by decide)
    have e1 : mDraw 0 G (mCons (mC (.int 2)) mNil) [dkS D, a1, a2, a3, a4, a5, a6, a7, a8, some (.v (.int s))] = .ok (.int r) [dkS D1, a1, a2, a3, a4, a5, a6, a7, a8, some (.v (.int s))] := draw_at (ds := [.int 2]) rfl e
    have c1 : mCmp fEqA (mB (mDraw 0 G (mCons (mC (.int 2)) mNil))) (mB (mC (.int 0))) [dkS D, a1, a2, a3, a4, a5, a6, a7, a8, some (.v (.int s))] = .ok (decide (r = 0)) [dkS D1, a1, a2, a3, a4, a5, a6, a7, a8, some (.v (.int s))] := by
      have := eqN r 0
      simp only [mCmp, mB, e1, mC, EO.bind, two, Opd.get, EO.lift]
      rw [show (0 : Int) = ((0 : Nat) : Int) from rfl, this]
    by_cases hr : r = 0
    · rw [decide_eq_true hr] at c1
      obtain ⟨l', D2, e2, sb, f2⟩ := lots hd a1 a2 a3 a4 a5 a6 a7 a8 l (k + 1) D1 (acc ++ [.int s]) f (by omega) (by simp; omega)
      refine ⟨s :: l', D2, ?_, sb.cons_cons _, f2.up (by rw [List.length_cons]; omega)⟩
      rw [List.map_cons, lcGo]
      simp only [gNm, List.length_cons, List.length_nil, List.set_cons_succ, List.set_cons_zero]
      rw [if_pos (by omega)]
      simp only [c1, EO.calm, EO.bind, if_true, mVar, List.getElem?_cons_succ, List.getElem?_cons_zero]
      rw [if_pos hsz]
      simp only [wipeS, List.set_cons_succ, List.set_cons_zero]
      rw [e2]
      simp
    · rw [decide_eq_false hr] at c1
      obtain ⟨l', D2, e2, sb, f2⟩ := lots hd a1 a2 a3 a4 a5 a6 a7 a8 l (k + 1) D1 acc f (by omega) (by omega)
      refine ⟨l', D2, ?_, sb.cons _, f2.up (by rw [List.length_cons]; omega)⟩
      rw [List.map_cons, lcGo]
      simp only [gNm, List.length_cons, List.length_nil, List.set_cons_succ, List.set_cons_zero]
      rw [if_pos (by omega)]
      simp only [c1, EO.calm, EO.bind, Bool.false_eq_true, if_false, wipeS, List.set_cons_succ, List.set_cons_zero]
      rw [e2]

def abW (long : Nat) (z : Str) : Prop := ∃ cs : List Nat, z = txt cs ∧ cs.length ≤ long ∧ ∀ c ∈ cs, c ∈ [97, 98]
structure WayOk (n long : Nat) (m : Mv) : Prop where
  p : m.p < n
  q : m.q < n
  u : abW long m.u
  v : abW long m.v
theorem ab_str : ("ab" : Str) = txt [97, 98] := rfl
/-- one way more -/
theorem pl_step {G Gw : Dk → List Dt → Res (Dt × Dk)} (hd : DrawOk G) (hw : WordOk Gw) {n long k : Nat} {D : Dk} {mvs : List Mv} {a1 a2 z6 z7 z8 z9 : Option SV} (hn : 0 < n) (hn2 : n < 1000) (hl : long ≤ 50) (hk : k < 800000) (hF : Fine k D) (hm : mvs.length ≤ 1000) :
    ∃ (m : Mv) (D' : Dk), plBody G Gw [dkS D, a1, a2, some (.v (.int long)), some (.v (.int n)), some (.o (.list (mvs.map mvD))), z6, z7, z8, z9] = .nx [dkS D', a1, a2, some (.v (.int long)), some (.v (.int n)), some (.o (.list ((mvs ++ [m]).map mvD))), z6, z7, some (.v (.int m.p)), z9] ∧ WayOk n long m ∧ Fine (k + 2 * long + 4) D' := by
  obtain ⟨p, D1, e1, hp, f1⟩ := hd D k n hF (by omega) hn (by omega)
  obtain ⟨u, D2, e2, lu, wu, f2⟩ := hw D1 (k + 1) long [97, 98] f1 (by omega) (by omega) (by decide) (by decide)
  obtain ⟨v, D3, e3, lv, wv, f3⟩ := hw D2 (k + 1 + long + 1) long [97, 98] f2 (by omega) (by omega) (by decide) (by decide)
  obtain ⟨q, D4, e4, hq, f4⟩ := hd D3 (k + 1 + long + 1 + long + 1) n f3 (by omega) hn (by omega)
  refine ⟨⟨p, txt u, txt v, q⟩, D4, ?_, ⟨hp, hq, ⟨u, rfl, lu, wu⟩, ⟨v, rfl, lv, wv⟩⟩, f4.up (by omega)⟩
  have sz : mvs.length < sizeLine := Nat.lt_of_le_of_lt hm (by decide)
  have x1 : mDraw 0 G (mCons (mVar 4) mNil) [dkS D, a1, a2, some (.v (.int long)), some (.v (.int n)), some (.o (.list (mvs.map mvD))), z6, z7, z8, z9] = .ok (.int p) [dkS D1, a1, a2, some (.v (.int long)), some (.v (.int n)), some (.o (.list (mvs.map mvD))), z6, z7, z8, z9] := draw_at (ds := [.int n]) rfl e1
  have wv0 : ∀ D : Dk, mCons (mC (.str "ab")) (mCons (mVar 3) mNil) [dkS D, a1, a2, some (.v (.int long)), some (.v (.int n)), some (.o (.list (mvs.map mvD))), z6, z7, some (.v (.int p)), z9] = .ok [.str (txt [97, 98]), .int long] [dkS D, a1, a2, some (.v (.int long)), some (.v (.int n)), some (.o (.list (mvs.map mvD))), z6, z7, some (.v (.int p)), z9] := fun D => rfl
  have x2 := draw_at (wv0 D1) e2
  have x3 := draw_at (wv0 D2) e3
  have x4 : mDraw 0 G (mCons (mVar 4) mNil) [dkS D3, a1, a2, some (.v (.int long)), some (.v (.int n)), some (.o (.list (mvs.map mvD))), z6, z7, some (.v (.int p)), z9] = .ok (.int q) [dkS D4, a1, a2, some (.v (.int long)), some (.v (.int n)), some (.o (.list (mvs.map mvD))), z6, z7, some (.v (.int p)), z9] := draw_at (ds := [.int n]) rfl e4
  unfold plBody
  rw [seq_nx (ss1 := [dkS D1, a1, a2, some (.v (.int long)), some (.v (.int n)), some (.o (.list (mvs.map mvD))), z6, z7, some (.v (.int p)), z9]) (by
    simp only [mSet, mFz, x1, EO.bind, EO.st]
    rfl)]
  have t1 : mTup (mCons (mVar 8) (mCons (mDraw 0 Gw (mCons (mC (.str "ab")) (mCons (mVar 3) mNil))) (mCons (mDraw 0 Gw (mCons (mC (.str "ab")) (mCons (mVar 3) mNil))) (mCons (mDraw 0 G (mCons (mVar 4) mNil)) mNil)))) [dkS D1, a1, a2, some (.v (.int long)), some (.v (.int n)), some (.o (.list (mvs.map mvD))), z6, z7, some (.v (.int p)), z9] = .ok (mvD ⟨p, txt u, txt v, q⟩) [dkS D4, a1, a2, some (.v (.int long)), some (.v (.int n)), some (.o (.list (mvs.map mvD))), z6, z7, some (.v (.int p)), z9] := by
    unfold mTup
    generalize hB : mDraw 0 Gw (mCons (mC (.str "ab")) (mCons (mVar 3) mNil)) = B at x2 x3 ⊢
    have v8 : mVar 8 [dkS D1, a1, a2, some (.v (.int long)), some (.v (.int n)), some (.o (.list (mvs.map mvD))), z6, z7, some (.v (.int p)), z9] = .ok (.int p) [dkS D1, a1, a2, some (.v (.int long)), some (.v (.int n)), some (.o (.list (mvs.map mvD))), z6, z7, some (.v (.int p)), z9] := rfl
    generalize hC : mDraw 0 G (mCons (mVar 4) mNil) = C at x4 ⊢
    simp only [mCons, v8, x2, x3, x4, mNil, EO.bind, fit, List.length_cons, List.length_nil]
    rw [if_pos (by decide)]
    rfl
  unfold mAppend
  rw [t1]
  simp only [ownL, List.getElem?_cons_zero, List.getElem?_cons_succ, EO.st, List.length_map]
  rw [if_pos sz]
  simp
theorem rng0 (n : Nat) : rangeD 0 n = (List.range n).map fun s : Nat => (.int s : Dt) := by
  unfold rangeD
  refine List.map_congr_left fun i _ => ?_
  rw [Int.zero_add]
theorem small10 {n : Nat} (h : n ≤ 10) : small62 (n : Int) := by
  unfold small62
  constructor
  · exact Int.le_trans (show -(2 ^ 62 : Int) ≤ 0 by decide) (Int.natCast_nonneg n)
  · exact Int.lt_of_le_of_lt (show (n : Int) ≤ 10 by omega) (by decide)
theorem rng_of {n : Nat} {B : SS → EO (List Dt)} {ss ss1 : SS} (h : small62 (n : Int)) (v : B ss = .ok [.int n] ss1) : mRng1 B ss = .ok ((List.range n).map fun s : Nat => (.int s : Dt)) ss1 := by
  simp only [mRng1, v, EO.bind]
  rw [if_pos h, Int.toNat_natCast, rng0]
theorem rng_v {n : Nat} {a0 a1 a2 a3 : Option SV} {r : List (Option SV)} : mCons (mVar 4) mNil (a0 :: a1 :: a2 :: a3 :: some (.v (.int n)) :: r) = .ok [.int n] (a0 :: a1 :: a2 :: a3 :: some (.v (.int n)) :: r) := rfl
theorem rng_n {n : Nat} (h : n ≤ 10) {a0 a1 a2 a3 : Option SV} {r : List (Option SV)} : mRng1 (mCons (mVar 4) mNil) (a0 :: a1 :: a2 :: a3 :: some (.v (.int n)) :: r) = .ok ((List.range n).map fun s : Nat => (.int s : Dt)) (a0 :: a1 :: a2 :: a3 :: some (.v (.int n)) :: r) := rng_of (small10 h) rng_v
def PlanOk (top many long : Nat) (n : Nat) (b : List Nat) (mv : List Mv) (e : List Nat) : Prop := 1 ≤ n ∧ n ≤ top ∧ b.Sublist (List.range n) ∧ e.Sublist (List.range n) ∧ mv.length ≤ many ∧ ∀ m ∈ mv, WayOk n long m
def PlansOk (Gp : Dk → List Dt → Res (Dt × Dk)) : Prop := ∀ (D : Dk) (k top many long : Nat), Fine k D → k < 500000 → 0 < top → top ≤ 10 → many ≤ 20 → long ≤ 20 → ∃ n b mv e D', Gp D [.int top, .int many, .int long] = .ok (wD n b mv e, D') ∧ PlanOk top many long n b mv e ∧ Fine (k + 1200) D'
theorem mLc_draw {m : SS → EO (List Dt)} {vs : List Nat} {g : Dt → SS → Option SS} {mt : SS → EO Bool} {me : SS → EO Dt} {ss ss1 s0 s3 ss2 : SS} {items ds : List Dt} (hi : m ss = .ok items ss1) (h0 : wipeS ss1 vs = s0) (h : lcGo vs g mt me items s0 [] = .ok ds s3) (hr : restS ss1 s3 vs = ss2) : mLc m vs g mt me ss = .ok (.list ds) ss2 := by
  unfold mLc
  rw [hi]
  simp only [EO.bind, h0, h, hr]
theorem put_new {ds : List (Dt × Dt)} {k v : Dt} (h : ∀ p ∈ ds, p.1 ≠ k) : putD ds k v = ds ++ [(k, v)] := by
  unfold putD
  rw [if_neg]
  rw [List.any_eq_true]
  rintro ⟨p, hp, e⟩
  exact h p hp (of_decide_eq_true e)
theorem str_ne {a b : Str} (h : a ≠ b) : (PyData.str a) ≠ .str b := fun e => h (PyData.str.inj e)
theorem wD_merge (a b c d : Dt) : mergeD [] [(.str "wide", a), (.str "in", b), (.str "ways", c), (.str "out", d)] = [(.str "wide", a), (.str "in", b), (.str "ways", c), (.str "out", d)] := by
  unfold mergeD
  simp only [List.foldl_cons, List.foldl_nil]
  have n1 : (PyData.str "wide") ≠ .str "in" := str_ne (by decide)
  have n2 : (PyData.str "wide") ≠ .str "ways" := str_ne (by decide)
  have n3 : (PyData.str "wide") ≠ .str "out" := str_ne (by decide)
  have n4 : (PyData.str "in") ≠ .str "ways" := str_ne (by decide)
  have n5 : (PyData.str "in") ≠ .str "out" := str_ne (by decide)
  have n6 : (PyData.str "ways") ≠ .str "out" := str_ne (by decide)
  have s1 : putD [] (.str "wide") a = [(.str "wide", a)] := put_new (fun p hp => by cases hp)
  have s2 : putD [(.str "wide", a)] (.str "in") b = [(.str "wide", a), (.str "in", b)] := put_new (fun p hp => by rw [List.mem_singleton.mp hp]; exact n1)
  have s3 : putD [(.str "wide", a), (.str "in", b)] (.str "ways") c = [(.str "wide", a), (.str "in", b), (.str "ways", c)] := put_new (fun p hp => by
    simp only [List.mem_cons, List.not_mem_nil, or_false] at hp
    rcases hp with rfl | rfl
    · exact n2
    · exact n4)
  have s4 : putD [(.str "wide", a), (.str "in", b), (.str "ways", c)] (.str "out") d = [(.str "wide", a), (.str "in", b), (.str "ways", c), (.str "out", d)] := put_new (fun p hp => by
    simp only [List.mem_cons, List.not_mem_nil, or_false] at hp
    rcases hp with rfl | rfl | rfl
    · exact n3
    · exact n5
    · exact n6)
  rw [s1, s2, s3, s4]
theorem ops_one {ss : SS} {d : Dt} : opsGet ss [.da d] = some [d] := by
  simp only [opsGet, Opd.get]
theorem fTup_l (ds : List Dt) : fTup [.list ds] = some (.tuple ds) := by
  simp only [fTup]
theorem tup_of {LC : SS → EO Dt} {ss ss1 : SS} {l : List Nat} (q : LC ss = .ok (.list (l.map fun s : Nat => (.int s : Dt))) ss1) : mBu fTup (mConsB (mB LC) mNilB) ss = .ok (natsD l) ss1 := by
  have e1 : mConsB (mB LC) mNilB ss = .ok [.da (.list (l.map fun s : Nat => (.int s : Dt)))] ss1 := by
    unfold mConsB mB
    rw [q]
    rfl
  have e2 : (opsGet ss1 [.da (.list (l.map fun s : Nat => (.int s : Dt)))]).bind fTup = some (natsD l) := by rw [ops_one]; exact fTup_l _
  unfold mBu
  rw [e1]
  show EO.lift ((opsGet ss1 [.da (.list (l.map fun s : Nat => (.int s : Dt)))]).bind fTup) ss1 = _
  rw [e2]
  rfl
theorem set_nx {i : Nat} {m : SS → EO Dt} {ss ss1 : SS} {d : Dt} (h : m ss = .ok d ss1) (hi : i < ss1.length) : mSet i (mFz m) ss = .nx (ss1.set i (some (.v d))) := by
  simp only [mSet, mFz, h, EO.bind, EO.st]
  rw [if_pos hi]
  rfl
theorem disp4 {A B C D : SS → EO Dt} {s0 s1 s2 s3 s4 : SS} {a b c d : Dt} (hA : A s0 = .ok a s1) (hB : B s1 = .ok b s2) (hC : C s2 = .ok c s3) (hD : D s3 = .ok d s4) :
    mDisp (mDCons (mC (.str "wide")) A (mDCons (mC (.str "in")) B (mDCons (mC (.str "ways")) C (mDCons (mC (.str "out")) D mDNil)))) s0 = .ok (.dict [(.str "wide", a), (.str "in", b), (.str "ways", c), (.str "out", d)]) s4 := by
  simp only [mDisp, mDCons, mC, EO.bind, hA, hB, hC, hD, mDNil, wD_merge]
  rw [if_pos]
  exact ⟨by simp only [List.all_cons, List.all_nil, key1, Bool.and_true], by simp only [List.length_cons, List.length_nil]; omega⟩
theorem ret_ok {m : SS → EO Dt} {ss : SS} {D : Dk} {r : List (Option SV)} {d : Dt} (h : m ss = .ok d (dkS D :: r)) : outX (mRet m ss) = .ok (d, D) := by
  unfold mRet
  rw [h]
  rfl
theorem plan_rest {G : Dk → List Dt → Res (Dt × Dk)} (hd : DrawOk G) {top many long : Int} {n k3 : Nat} {D3 : Dk} {mvs : List Mv} {z6 z8 : Option SV} (hn : n ≤ 10) (hk : k3 < 900000) (f3 : Fine k3 D3) :
    ∃ b e D', outX (plRest G [dkS D3, some (.v (.int top)), some (.v (.int many)), some (.v (.int long)), some (.v (.int n)), some (.o (.list (mvs.map mvD))), z6, none, z8, none]) = .ok (wD n b mvs e, D') ∧ b.Sublist (List.range n) ∧ e.Sublist (List.range n) ∧ Fine (k3 + 20) D' := by
  have rg : ∀ (D : Dk) (z5 z6 z7 z8 z9 : Option SV), mRng1 (mCons (mVar 4) mNil) [dkS D, some (.v (.int top)), some (.v (.int many)), some (.v (.int long)), some (.v (.int n)), z5, z6, z7, z8, z9] = .ok ((List.range n).map fun s : Nat => (.int s : Dt)) [dkS D, some (.v (.int top)), some (.v (.int many)), some (.v (.int long)), some (.v (.int n)), z5, z6, z7, z8, z9] := fun D z5 z6 z7 z8 z9 => rng_n hn
  obtain ⟨e, D4, e4, sb4, f4⟩ := lots hd (some (.v (.int top))) (some (.v (.int many))) (some (.v (.int long))) (some (.v (.int n))) (some (.o (.list (mvs.map mvD)))) z6 none z8 (List.range n) k3 D3 [] f3 (by rw [List.length_range]; omega) (by rw [List.length_range]; simp; omega)
  obtain ⟨b, D5, e5, sb5, f5⟩ := lots hd (some (.v (.int top))) (some (.v (.int many))) (some (.v (.int long))) (some (.v (.int n))) (some (.o (.list (mvs.map mvD)))) z6 (some (.v (natsD e))) z8 (List.range n) (k3 + n) D4 [] (f4.up (by rw [List.length_range]; omega)) (by rw [List.length_range]; omega) (by rw [List.length_range]; simp; omega)
  rw [List.nil_append] at e4 e5
  have sz : ∀ l : List Nat, l.Sublist (List.range n) → l.length ≤ n := fun l h => by
    have := h.length_le
    rwa [List.length_range] at this
  have q4 := mLc_draw (rg D3 (some (.o (.list (mvs.map mvD)))) z6 none z8 none) rfl e4 (ss2 := [dkS D4, some (.v (.int top)), some (.v (.int many)), some (.v (.int long)), some (.v (.int n)), some (.o (.list (mvs.map mvD))), z6, none, z8, none]) rfl
  have q5 := mLc_draw (rg D4 (some (.o (.list (mvs.map mvD)))) z6 (some (.v (natsD e))) z8 none) rfl e5 (ss2 := [dkS D5, some (.v (.int top)), some (.v (.int many)), some (.v (.int long)), some (.v (.int n)), some (.o (.list (mvs.map mvD))), z6, some (.v (natsD e)), z8, none]) rfl
  refine ⟨b, e, D5, ?_, sb5, sb4, f5.up (by rw [List.length_range]; omega)⟩
  unfold plRest
  generalize hL : mLc (mRng1 (mCons (mVar 4) mNil)) [9] (gNm 9) (mCmp fEqA (mB (mDraw 0 G (mCons (mC (.int 2)) mNil))) (mB (mC (.int 0)))) (mVar 9) = LC at q4 q5 ⊢
  have ft : ∀ (l : List Nat), fTup [.list (l.map fun s : Nat => (.int s : Dt))] = some (natsD l) := fun l => rfl
  have w4 := tup_of q4
  rw [seq_nx (ss1 := [dkS D4, some (.v (.int top)), some (.v (.int many)), some (.v (.int long)), some (.v (.int n)), some (.o (.list (mvs.map mvD))), z6, some (.v (natsD e)), z8, none]) (by
    exact set_nx w4 (show (7 : Nat) < 10 by decide))]
  have t5 := tup_of q5
  generalize hT : mBu fTup (mConsB (mB LC) mNilB) = T at t5 ⊢
  have dsp : mDisp (mDCons (mC (.str "wide")) (mVar 4) (mDCons (mC (.str "in")) T (mDCons (mC (.str "ways")) (mVar 5) (mDCons (mC (.str "out")) (mVar 7) mDNil)))) [dkS D4, some (.v (.int top)), some (.v (.int many)), some (.v (.int long)), some (.v (.int n)), some (.o (.list (mvs.map mvD))), z6, some (.v (natsD e)), z8, none] = .ok (wD n b mvs e) [dkS D5, some (.v (.int top)), some (.v (.int many)), some (.v (.int long)), some (.v (.int n)), some (.v (.list (mvs.map mvD))), z6, some (.v (natsD e)), z8, none] := by
    exact disp4 rfl t5 rfl rfl
  exact ret_ok dsp

theorem plan_ok {G Gw Gp : Dk → List Dt → Res (Dt × Dk)} (hd : DrawOk G) (hw : WordOk Gw) (hG : ∀ (D : Dk) (d1 d2 d3 : Dt), Gp D [d1, d2, d3] = outX (plM G Gw [dkS D, some (.v d1), some (.v d2), some (.v d3), none, none, none, none, none, none])) : PlansOk Gp := by
  intro D k top many long hF hk ht ht2 hmany hlong
  obtain ⟨r, D1, e1, hr, f1⟩ := hd D k top hF (by omega) ht (by omega)
  obtain ⟨m, D2, e2, hm, f2⟩ := hd D1 (k + 1) (many + 1) f1 (by omega) (by omega) (by omega)
  rw [hG]
  unfold plM
  have x1 : mDraw 0 G (mCons (mVar 1) mNil) [dkS D, some (.v (.int top)), some (.v (.int many)), some (.v (.int long)), none, none, none, none, none, none] = .ok (.int r) [dkS D1, some (.v (.int top)), some (.v (.int many)), some (.v (.int long)), none, none, none, none, none, none] := draw_at (ds := [.int top]) rfl e1
  rw [seq_nx (ss1 := [dkS D1, some (.v (.int top)), some (.v (.int many)), some (.v (.int long)), some (.v (.int ((r + 1 : Nat) : Int))), none, none, none, none, none]) (by
    have a1 : gAdd (.int 1) (.int r) = some (.int ((r + 1 : Nat) : Int)) := by
      show some (PyData.int (1 + (r : Int))) = _
      congr 2
      omega
    simp only [mSet, mFz, mBin, mB, mC, x1, EO.bind, EO.st, EO.lift, two, Opd.get, a1]
    rfl)]
  rw [seq_nx (ss1 := [dkS D1, some (.v (.int top)), some (.v (.int many)), some (.v (.int long)), some (.v (.int ((r + 1 : Nat) : Int))), some (.o (.list [])), none, none, none, none]) (by rfl)]
  generalize hn : r + 1 = n
  have x2 : mRng1 (mCons (mDraw 0 G (mCons (mBin gAdd (mBor 2) (mB (mC (.int 1)))) mNil)) mNil) [dkS D1, some (.v (.int top)), some (.v (.int many)), some (.v (.int long)), some (.v (.int n)), some (.o (.list [])), none, none, none, none] = .ok ((List.range m).map fun s : Nat => (.int s : Dt)) [dkS D2, some (.v (.int top)), some (.v (.int many)), some (.v (.int long)), some (.v (.int n)), some (.o (.list [])), none, none, none, none] := by
    have y1 : mDraw 0 G (mCons (mBin gAdd (mBor 2) (mB (mC (.int 1)))) mNil) [dkS D1, some (.v (.int top)), some (.v (.int many)), some (.v (.int long)), some (.v (.int n)), some (.o (.list [])), none, none, none, none] = .ok (.int m) [dkS D2, some (.v (.int top)), some (.v (.int many)), some (.v (.int long)), some (.v (.int n)), some (.o (.list [])), none, none, none, none] := draw_at (ds := [.int ((many + 1 : Nat) : Int)]) rfl e2
    generalize mDraw 0 G (mCons (mBin gAdd (mBor 2) (mB (mC (.int 1)))) mNil) = B at y1 ⊢
    have s6 : small62 (m : Int) := ⟨by omega, by omega⟩
    exact rng_of s6 (by simp only [mCons, y1, mNil, EO.bind])
  obtain ⟨ss', e3, D3, mvs, z6, z8, rfl, l3, f3, w3⟩ := forGo_ix (g := gNm 6) (n := plBody G Gw) (fun s : Nat => (.int s : Dt)) (fun j ss => ∃ (D3 : Dk) (mvs : List Mv) (z6 z8 : Option SV), ss = [dkS D3, some (.v (.int top)), some (.v (.int many)), some (.v (.int long)), some (.v (.int n)), some (.o (.list (mvs.map mvD))), z6, none, z8, none] ∧ mvs.length = j ∧ Fine (k + 2 + j * 50) D3 ∧ ∀ m ∈ mvs, WayOk n long m) (List.range m) (fun j ss hj => by
    rintro ⟨D3, mvs, z6, z8, rfl, l, f, w⟩
    rw [List.length_range] at hj
    obtain ⟨m', D4, st, wm, f4⟩ := pl_step (a1 := some (.v (.int top))) (a2 := some (.v (.int many))) (z6 := some (.v (.int ((List.range m)[j]'(by rw [List.length_range]; exact hj))))) (z7 := none) (z8 := z8) (z9 := none) (mvs := mvs) (n := n) (long := long) hd hw (by omega) (by omega) (by omega) (by omega) f (by omega)
    refine ⟨_, _, rfl, .inl st, D4, mvs ++ [m'], _, _, rfl, by simp [l], f4.up (by omega), fun x hx => ?_⟩
    rcases List.mem_append.mp hx with hx | hx
    · exact w x hx
    · rw [List.mem_singleton.mp hx]
      exact wm) [dkS D2, some (.v (.int top)), some (.v (.int many)), some (.v (.int long)), some (.v (.int n)), some (.o (.list [])), none, none, none, none] ⟨D2, [], none, none, rfl, rfl, f2.up (by omega), fun _ h => (by cases h)⟩
  rw [List.length_range] at l3 f3
  rw [seq_nx (by rw [for_ok x2]; exact e3)]
  obtain ⟨b, e, D', er, sb, se, f'⟩ := plan_rest hd (top := top) (many := many) (long := long) (n := n) (mvs := mvs) (z6 := z6) (z8 := z8) (by omega) (by have : m * 50 ≤ 20 * 50 := Nat.mul_le_mul_right _ (by omega); omega) f3
  exact ⟨n, b, mvs, e, D', er, ⟨by omega, by omega, sb, se, by omega, w3⟩, f'.up (by have : m * 50 ≤ 20 * 50 := Nat.mul_le_mul_right _ (by omega); omega)⟩
end VL

namespace VL
open PySem PySem.Spec L2
open PyProof.Rows hiding St
variable [WW]
theorem lay_all : ∀ ds : List Dt, (∀ d ∈ ds, PyData.canLay0 d = true) → PyData.canLayAll0 ds = true
  | [], _ => by simp only [PyData.canLayAll0]
  | d :: ds, h => by
    simp only [PyData.canLayAll0, Bool.and_eq_true]
    exact ⟨h d (List.mem_cons_self ..), lay_all ds fun e he => h e (List.mem_cons_of_mem _ he)⟩
theorem dep_all {k : Nat} : ∀ ds : List Dt, (∀ d ∈ ds, PyData.depth d ≤ k) → PyData.depthAll ds ≤ k
  | [], _ => by simp only [PyData.depthAll]; omega
  | d :: ds, h => by
    simp only [PyData.depthAll]
    have h1 := h d (List.mem_cons_self ..)
    have h2 := dep_all ds fun e he => h e (List.mem_cons_of_mem _ he)
    omega
theorem lay_tup {k : Nat} {ds : List Dt} (h : ∀ d ∈ ds, PyData.canLay0 d = true ∧ PyData.depth d ≤ k) : PyData.canLay0 (.tuple ds) = true ∧ PyData.depth (.tuple ds) ≤ k + 1 := by
  refine ⟨?_, ?_⟩
  · simp only [PyData.canLay0]
    exact lay_all ds fun d hd => (h d hd).1
  · simp only [PyData.depth]
    have := dep_all ds fun d hd => (h d hd).2
    omega
theorem lay_int (i : Int) : PyData.canLay0 (.int i) = true ∧ PyData.depth (.int i) ≤ 0 := ⟨by simp only [PyData.canLay0], by simp [PyData.depth]⟩
theorem lay_str {z : Str} (h : PyData.strOk z = true) : PyData.canLay0 (.str z) = true ∧ PyData.depth (.str z) ≤ 0 := ⟨by simp only [PyData.canLay0, h], by simp [PyData.depth]⟩
theorem lay_up {d : Dt} {k l : Nat} (h : PyData.canLay0 d = true ∧ PyData.depth d ≤ k) (hl : k ≤ l) : PyData.canLay0 d = true ∧ PyData.depth d ≤ l := ⟨h.1, Nat.le_trans h.2 hl⟩
theorem shaped_of {d : Dt} {k : Nat} (h : PyData.canLay0 d = true ∧ PyData.depth d ≤ k) (hk : k ≤ 64) : SeqAt.shaped d = true := by
  unfold SeqAt.shaped
  rw [h.1, Bool.true_and]
  exact decide_eq_true (Nat.le_trans h.2 hk)
theorem shaped_nats (l : List Nat) : SeqAt.shaped (natsD l) = true := shaped_of (lay_tup fun d hd => by
  obtain ⟨s, _, rfl⟩ := List.mem_map.mp hd
  exact lay_int _) (by decide)
theorem letC_lt {c : Nat} (h : letC c = true) : c < 1114112 := by
  have h := of_decide_eq_true h
  have : ∀ c ∈ ("abcdefghijklmnopqrstuvwxyz" : Str).cps.toList, c < 1114112 := by decide
  exact this c h
theorem letW_ok {z : Str} (h : letW z = true) : PyData.strOk z = true := by
  unfold letW at h
  rw [Bool.and_eq_true] at h
  unfold PyData.strOk
  rw [Array.all_eq_true']
  intro c hc
  have := List.all_eq_true.mp h.1 c (by simpa using hc)
  exact decide_eq_true (letC_lt this)
theorem shaped_mvs {mv : List Mv} (h : ∀ m ∈ mv, letW m.u = true ∧ letW m.v = true) : SeqAt.shaped (.tuple (mv.map mvD)) = true := shaped_of (lay_tup fun d hd => by
  obtain ⟨m, hm, rfl⟩ := List.mem_map.mp hd
  refine lay_tup (k := 0) fun d hd => ?_
  simp only [List.mem_cons, List.not_mem_nil, or_false] at hd
  rcases hd with rfl | rfl | rfl | rfl
  · exact lay_int _
  · exact lay_str (letW_ok (h m hm).1)
  · exact lay_str (letW_ok (h m hm).2)
  · exact lay_int _) (by decide)
theorem eqA_same {ds : List Dt} (h : SeqAt.shaped (.tuple ds) = true) : fEqA (.tuple ds) (.tuple ds) = some true := by
  cases ds with
  | nil => rfl
  | cons d ds =>
    show fEq (.tuple (d :: ds)) (.tuple (d :: ds)) = some true
    unfold fEq
    rw [if_pos ⟨h, h⟩]
    congr 1
    have := (Bool.and_eq_true_iff.mp h).1
    exact SeqAt.eqv_refl _ this
abbrev peM : SS → SO := (mSeq (mIfS (mOr (mNot (toB (mIsO "Pacer" (mBor 1)))) (mCmp fNeA (mB (mFld "Pacer" "size" (mBor 0))) (mB (mFld "Pacer" "size" (mBor 1))))) (mRet (mC (.bool false))) .nx)
    (mRet (vAnd (mBl (mCmp fEqA (mB (mFld "Pacer" "begins" (mBor 0))) (mB (mFld "Pacer" "begins" (mBor 1))))) (vAnd (mBl (mCmp fEqA (mB (mFld "Pacer" "moves" (mBor 0))) (mB (mFld "Pacer" "moves" (mBor 1))))) (mBl (mCmp fEqA (mB (mFld "Pacer" "ends" (mBor 0))) (mB (mFld "Pacer" "ends" (mBor 1)))))))))
theorem pe_all {n : Nat} {b e : List Nat} {mv : List Mv} (P : PcOk n b mv e) : outF (peM [some (.v (pcD n b mv e)), some (.v (pcD n b mv e))]) = .ok (.bool true) := by
  have i1 : fIsO "Pacer" (pcD n b mv e) = some true := rfl
  have n1 : fNeA (.int (n : Nat)) (.int (n : Nat)) = some false := by
    show fNe (.int n) (.int n) = _
    rw [fNe_int]
    simp
  have q1 : fEqA (natsD b) (natsD b) = some true := eqA_same (shaped_nats b)
  have q2 : fEqA (natsD e) (natsD e) = some true := eqA_same (shaped_nats e)
  have q3 : fEqA (.tuple (mv.map mvD)) (.tuple (mv.map mvD)) = some true := eqA_same (shaped_mvs fun m hm => ⟨(P.hm m hm).2.2.1, (P.hm m hm).2.2.2⟩)
  unfold peM
  rw [seq_nx (ss1 := [some (.v (pcD n b mv e)), some (.v (pcD n b mv e))]) (by
    rw [if_ok (z := false) (ss1 := [some (.v (pcD n b mv e)), some (.v (pcD n b mv e))]) (by
      simp only [mOr, mNot, toB, mIsO, mBor, mCmp, mB, mFld, EO.bind, EO.lift, two, Opd.get, List.getElem?_cons_zero, List.getElem?_cons_succ, Option.bind, i1, Option.map, fld_size, n1]
      rfl)]
    rfl)]
  simp only [mRet, vAnd, mBl, mCmp, mB, mFld, mBor, EO.bind, EO.st, EO.lift, two, Opd.get, List.getElem?_cons_zero, List.getElem?_cons_succ, Option.bind, fld_begins, fld_moves, fld_ends, q1, q2, q3, outF]
end VL

namespace VL
open PySem PySem.Spec L2
open PyProof.Rows hiding St
variable [WW]
/-- from a begin, move by move -/
inductive Way (b : List Nat) (mv : List Mv) : Nat → List Nat → List Nat → Prop
  | base {s : Nat} : s ∈ b → Way b mv s [] []
  | step {s : Nat} {x y : List Nat} {m : Mv} : Way b mv s x y → m ∈ mv → m.p = s → Way b mv m.q (x ++ m.u.cps.toList) (y ++ m.v.cps.toList)
theorem fits_txt {x x' : List Nat} {u : Str} : fits (txt (x ++ u.cps.toList ++ x')) u x.length = true := by
  refine decide_eq_true ?_
  show ((x ++ u.cps.toList ++ x').drop x.length).take u.length = u.cps.toList
  rw [List.append_assoc, List.drop_left, List.take_left' (len_cps u)]
theorem Way.reach {b : List Nat} {mv : List Mv} {s : Nat} {x y : List Nat} (w : Way b mv s x y) : ∀ x' y' : List Nat, Reach (begB b) (nxs mv (txt (x ++ x')) (txt (y ++ y'))) (s, x.length, y.length) := by
  induction w with
  | base h => exact fun x' y' => .base (List.mem_map.mpr ⟨_, h, rfl⟩)
  | @step s x y m w hm hp ih =>
    intro x' y'
    have h1 := ih (m.u.cps.toList ++ x') (m.v.cps.toList ++ y')
    rw [← List.append_assoc, ← List.append_assoc] at h1
    refine .step h1 (List.mem_filterMap.mpr ⟨m, hm, ?_⟩)
    unfold nx1
    rw [if_pos ⟨hp, fits_txt, fits_txt⟩, List.length_append, List.length_append, len_cps, len_cps]
theorem Way.tells {b e : List Nat} {mv : List Mv} {s : Nat} {x y : List Nat} (w : Way b mv s x y) (hs : s ∈ e) : Tells b mv e (txt x) (txt y) := by
  refine ⟨s, hs, ?_⟩
  have := w.reach [] []
  rw [List.append_nil, List.append_nil] at this
  exact this
end VL

namespace VL
open PySem PySem.Spec L2
open PyProof.Rows hiding St
variable [WW]
abbrev wkCond : SS → EO Bool := (mAnd (mCmp fEqA (mB (mBin fIx (mBor 7) (mB (mC (.int 0))))) (mBor 3)) (mAnd (mCmp fLt (mB (mBu fLen (mConsB (mB (mBin gAdd (mBor 4) (mB (mBin fIx (mBor 7) (mB (mC (.int 1))))))) mNilB))) (mB (mC (.int 13)))) (mCmp fLt (mB (mBu fLen (mConsB (mB (mBin gAdd (mBor 5) (mB (mBin fIx (mBor 7) (mB (mC (.int 2))))))) mNilB))) (mB (mC (.int 13))))))
abbrev wkBody (Gp : Dk → List Dt → Res (Dt × Dk)) : SS → SO := (mSeq (mSet 6 (mOw (mLc (mItems (mBin fDGet (mBor 1) (mB (mC (.str "ways"))))) [7] (gNm 7) wkCond (mVar 7))))
    (mIfS (mCmp fNeA (mBor 6) (mB (mLst mNil))) (mSeq (mSet 7 (mFz (mDraw 0 Gp (mCons (mVar 6) mNil))))
    (mParT [3, 4, 5] (mNCons (mFz (mBin fIx (mBor 7) (mB (mC (.int 3))))) (mNCons (mFz (mBin gAdd (mBor 4) (mB (mBin fIx (mBor 7) (mB (mC (.int 1))))))) (mNCons (mFz (mBin gAdd (mBor 5) (mB (mBin fIx (mBor 7) (mB (mC (.int 2))))))) mNNil))))) .nx))
abbrev wkM (G Gp : Dk → List Dt → Res (Dt × Dk)) : SS → SO := (mSeq (mIfS (mCmp fEqA (mB (mBin fDGet (mBor 1) (mB (mC (.str "in"))))) (mB (mTup mNil))) (mRet (mC .none)) .nx)
    (mSeq (mParT [3, 4, 5] (mNCons (mFz (mDraw 0 Gp (mCons (mBin fDGet (mBor 1) (mB (mC (.str "in")))) mNil))) (mNCons (mFz (mC (.str ""))) (mNCons (mFz (mC (.str ""))) mNNil))))
    (mSeq (mFor (mRng1 (mCons (mDraw 0 G (mCons (mC (.int 8)) mNil)) mNil)) (gNm 2) (wkBody Gp))
    (mRet (mTup (mCons (mVar 4) (mCons (mVar 5) (mCons (mVar 3) mNil))))))))
def wkP (s : Nat) (x y : List Nat) (m : Mv) : Bool := decide (m.p = s) && (decide (x.length + m.u.length < 13) && decide (y.length + m.v.length < 13))
theorem txt_appU (x : List Nat) (u : Str) : txt x ++ u = txt (x ++ u.cps.toList) := by
  show (⟨x.toArray ++ u.cps⟩ : Str) = ⟨(x ++ u.cps.toList).toArray⟩
  congr 1
  apply Array.ext'
  simp
theorem add_txt {x : List Nat} {u : Str} (hx : x.length ≤ 1000) (hu : u.length ≤ 1000) : gAdd (.str (txt x)) (.str u) = some (.str (txt (x ++ u.cps.toList))) := by
  have h : (txt x).length + u.length ≤ sizeLine := Nat.le_trans (show (txt x).length + u.length ≤ 2000 by rw [txt_len]; omega) (by decide)
  have e : gAddS (.str (txt x)) (.str u) = some (.str (txt x ++ u)) := if_pos h
  rw [txt_appU] at e
  have g : gAdd (.str (txt x)) (.str u) = alt gAddS (alt gAddT gAddL) (.str (txt x)) (.str u) := rfl
  rw [g]
  unfold alt
  rw [e]
abbrev wkS (D : Dk) (W : Dt) (z2 : Option SV) (s : Nat) (x y : List Nat) (z6 z7 : Option SV) : SS := [dkS D, some (.v W), z2, some (.v (.int s)), some (.v (.str (txt x))), some (.v (.str (txt y))), z6, z7]
theorem wk_cond {D : Dk} {W : Dt} {z2 z6 : Option SV} {s : Nat} {x y : List Nat} {m : Mv} (hx : x.length ≤ 500) (hy : y.length ≤ 500) (hu : m.u.length ≤ 500) (hv : m.v.length ≤ 500) : wkCond (wkS D W z2 s x y z6 (some (.v (mvD m)))) = .ok (wkP s x y m) (wkS D W z2 s x y z6 (some (.v (mvD m)))) := by
  have i0 : fIx (mvD m) (.int 0) = some (.int m.p) := rfl
  have i1 : fIx (mvD m) (.int 1) = some (.str m.u) := rfl
  have i2 : fIx (mvD m) (.int 2) = some (.str m.v) := rfl
  have a1 := add_txt (x := x) (u := m.u) (by omega) (by omega)
  have a2 := add_txt (x := y) (u := m.v) (by omega) (by omega)
  have l1 : fLen [.str (txt (x ++ m.u.cps.toList))] = some (.int ((x.length + m.u.length : Nat) : Int)) := by
    have : (txt (x ++ m.u.cps.toList)).length = x.length + m.u.length := by rw [txt_len, List.length_append, len_cps]
    show (if (txt (x ++ m.u.cps.toList)).length ≤ sizeLine then some (PyData.int (txt (x ++ m.u.cps.toList)).length) else none) = _
    rw [this, if_pos (Nat.le_trans (show x.length + m.u.length ≤ 1000 by omega) (by decide))]
  have l2 : fLen [.str (txt (y ++ m.v.cps.toList))] = some (.int ((y.length + m.v.length : Nat) : Int)) := by
    have : (txt (y ++ m.v.cps.toList)).length = y.length + m.v.length := by rw [txt_len, List.length_append, len_cps]
    show (if (txt (y ++ m.v.cps.toList)).length ≤ sizeLine then some (PyData.int (txt (y ++ m.v.cps.toList)).length) else none) = _
    rw [this, if_pos (Nat.le_trans (show y.length + m.v.length ≤ 1000 by omega) (by decide))]
  have q : ∀ n : Nat, fLt (.int (n : Nat)) (.int 13) = some (decide (n < 13)) := fun n => by
    show some (decide ((n : Int) < 13)) = _
    congr 1
    rw [decide_eq_decide]
    omega
  have c0 : mCmp fEqA (mB (mBin fIx (mBor 7) (mB (mC (.int 0))))) (mBor 3) (wkS D W z2 s x y z6 (some (.v (mvD m)))) = .ok (decide (m.p = s)) (wkS D W z2 s x y z6 (some (.v (mvD m)))) := by
    simp only [mCmp, mB, mBin, mBor, mC, EO.bind, EO.lift, two, Opd.get, List.getElem?_cons_zero, List.getElem?_cons_succ, i0, eqN]
  have c1 : mCmp fLt (mB (mBu fLen (mConsB (mB (mBin gAdd (mBor 4) (mB (mBin fIx (mBor 7) (mB (mC (.int 1))))))) mNilB))) (mB (mC (.int 13))) (wkS D W z2 s x y z6 (some (.v (mvD m)))) = .ok (decide (x.length + m.u.length < 13)) (wkS D W z2 s x y z6 (some (.v (mvD m)))) := by
    simp only [mCmp, mB, mBin, mBu, mConsB, mNilB, mBor, mC, EO.bind, EO.lift, two, opsGet, Opd.get, Option.bind, List.getElem?_cons_zero, List.getElem?_cons_succ, i1, a1, l1, q]
  have c2 : mCmp fLt (mB (mBu fLen (mConsB (mB (mBin gAdd (mBor 5) (mB (mBin fIx (mBor 7) (mB (mC (.int 2))))))) mNilB))) (mB (mC (.int 13))) (wkS D W z2 s x y z6 (some (.v (mvD m)))) = .ok (decide (y.length + m.v.length < 13)) (wkS D W z2 s x y z6 (some (.v (mvD m)))) := by
    simp only [mCmp, mB, mBin, mBu, mConsB, mNilB, mBor, mC, EO.bind, EO.lift, two, opsGet, Opd.get, Option.bind, List.getElem?_cons_zero, List.getElem?_cons_succ, i2, a2, l2, q]
  unfold wkP
  simp only [wkCond, mAnd, c0, EO.bind]
  by_cases h0 : m.p = s
  · simp only [h0, decide_true, if_true, c1, Bool.true_and]
    by_cases h1 : x.length + m.u.length < 13
    · simp only [h1, decide_true, if_true, c2, Bool.true_and]
    · simp only [h1, decide_false, Bool.false_eq_true, if_false, Bool.false_and]
  · simp only [h0, decide_false, Bool.false_eq_true, if_false, Bool.false_and]

theorem draw_at2 {G : Dk → List Dt → Res (Dt × Dk)} {m : SS → EO (List Dt)} {D D' : Dk} {r r' : List (Option SV)} {ds : List Dt} {d : Dt} (hm : m (dkS D :: r) = .ok ds (dkS D :: r')) (h : G D ds = .ok (d, D')) : mDraw 0 G m (dkS D :: r) = .ok d (dkS D' :: r') := by
  obtain ⟨q, b, c⟩ := D
  obtain ⟨q', b', c'⟩ := D'
  simp [mDraw, hm, EO.bind, h]
theorem nx_map {l : List Mv} : (l.map mvD).isEmpty = l.isEmpty := by cases l <;> rfl
theorem abW_app {long : Nat} {x : List Nat} {u : Str} (hx : ∀ c ∈ x, c ∈ [97, 98]) (hu : abW long u) : ∀ c ∈ x ++ u.cps.toList, c ∈ [97, 98] := by
  obtain ⟨cs, rfl, _, h⟩ := hu
  intro c hc
  rcases List.mem_append.mp hc with hc | hc
  · exact hx c hc
  · exact h c (by simpa [txt] using hc)
theorem abW_len {long : Nat} {u : Str} (hu : abW long u) : u.length ≤ long := by
  obtain ⟨cs, rfl, h, _⟩ := hu
  exact h
/-- where a drawn way stands -/
structure WkI (n long : Nat) (b : List Nat) (mv : List Mv) (s : Nat) (x y : List Nat) : Prop where
  w : Way b mv s x y
  lx : x.length ≤ 12
  ly : y.length ≤ 12
  ax : ∀ c ∈ x, c ∈ [97, 98]
  ay : ∀ c ∈ y, c ∈ [97, 98]
theorem wk_step {Gp : Dk → List Dt → Res (Dt × Dk)} (hp : PickOk Gp) {n long k : Nat} {b e : List Nat} {mv : List Mv} {D : Dk} {s : Nat} {x y : List Nat} {z2 z6 z7 : Option SV} (hz7 : z7 = none ∨ ∃ d, z7 = some (.v d)) (hl : long ≤ 20) (hm : ∀ m ∈ mv, WayOk n long m) (hmv : mv.length ≤ 1000) (I : WkI n long b mv s x y) (hF : Fine k D) (hk : k < 900000) :
    ∃ D' s' x' y' z6' z7', wkBody Gp (wkS D (wD n b mv e) z2 s x y z6 z7) = .nx (wkS D' (wD n b mv e) z2 s' x' y' z6' z7') ∧ (z7' = none ∨ ∃ d, z7' = some (.v d)) ∧ WkI n long b mv s' x' y' ∧ Fine (k + 1) D' := by
  have sl : mv.length ≤ sizeLine := Nat.le_trans hmv (by decide)
  obtain ⟨F, hFd⟩ : ∃ F, F = mv.filter (wkP s x y) := ⟨_, rfl⟩
  have lc := mLc_enc (m := mItems (mBin fDGet (mBor 1) (mB (mC (.str "ways"))))) (vs := [7]) (g := gNm 7) (mt := wkCond) (me := mVar 7) (ss := wkS D (wD n b mv e) z2 s x y z6 z7) mvD (fun m => wkS D (wD n b mv e) z2 s x y z6 (some (.v (mvD m)))) (wkP s x y) mvD mv (ss1 := wkS D (wD n b mv e) z2 s x y z6 z7) (s0 := wkS D (wD n b mv e) z2 s x y z6 none) (ss2 := wkS D (wD n b mv e) z2 s x y z6 z7) (by simp only [mItems, mBin, mB, mC, mBor, EO.bind, EO.lift, two, Opd.get, List.getElem?_cons_zero, List.getElem?_cons_succ, w_ways, itemsD]) (by rfl) (by
      rcases hz7 with rfl | ⟨d, rfl⟩ <;> rfl) (by intro m _; rfl) (by
      intro m hmm
      have := hm m hmm
      exact wk_cond (by have := I.lx; omega) (by have := I.ly; omega) (by have := abW_len this.u; omega) (by have := abW_len this.v; omega)) (by intro m _ _; rfl) (by intro m _; rfl) sl
  rw [← hFd] at lc
  unfold wkBody
  rw [seq_nx (ss1 := wkS D (wD n b mv e) z2 s x y (some (.o (.list (F.map mvD)))) z7) (by
    simp only [mSet, mOw, lc, EO.bind, EO.st]
    rfl)]
  rw [if_ok (z := !F.isEmpty) (ss1 := wkS D (wD n b mv e) z2 s x y (some (.o (.list (F.map mvD)))) z7) (by
    simp only [mCmp, mBor, mB, mLst, mNil, fit, List.length_nil, if_pos (Nat.zero_le _), EO.bind, EO.lift, two, Opd.get, List.getElem?_cons_zero, List.getElem?_cons_succ, neL_nil, nx_map])]
  cases hFe : F with
  | nil =>
    exact ⟨D, s, x, y, _, z7, rfl, hz7, I, hF.up (by omega)⟩
  | cons m0 F' =>
    simp only [List.isEmpty_cons, Bool.not_false, if_true]
    rw [← hFe]
    have hlen : F.length ≤ mv.length := by rw [hFd]; exact List.length_filter_le _ _
    have hpos : 0 < F.length := by rw [hFe]; exact Nat.succ_pos _
    obtain ⟨d, D', e1, hd, f1⟩ := hp D k (.list (F.map mvD)) (F.map mvD) (.inl rfl) hF (by omega) (by rw [List.length_map]; exact hpos) (by rw [List.length_map]; omega)
    obtain ⟨m, hmF, rfl⟩ := List.mem_map.mp hd
    rw [hFd] at hmF
    obtain ⟨hmm, hpm⟩ := List.mem_filter.mp hmF
    unfold wkP at hpm
    simp only [Bool.and_eq_true, decide_eq_true_eq] at hpm
    obtain ⟨p0, p1, p2⟩ := hpm
    have wm := hm m hmm
    have x1 : mDraw 0 Gp (mCons (mVar 6) mNil) (wkS D (wD n b mv e) z2 s x y (some (.o (.list (F.map mvD)))) z7) = .ok (mvD m) (wkS D' (wD n b mv e) z2 s x y (some (.v (.list (F.map mvD)))) z7) := draw_at2 (ds := [.list (F.map mvD)]) rfl e1
    rw [seq_nx (ss1 := wkS D' (wD n b mv e) z2 s x y (some (.v (.list (F.map mvD)))) (some (.v (mvD m)))) (set_nx x1 (show (7 : Nat) < 8 by decide))]
    have i1 : fIx (mvD m) (.int 1) = some (.str m.u) := rfl
    have i2 : fIx (mvD m) (.int 2) = some (.str m.v) := rfl
    have i3 : fIx (mvD m) (.int 3) = some (.int m.q) := rfl
    have a1 := add_txt (x := x) (u := m.u) (by have := I.lx; omega) (by have := abW_len wm.u; omega)
    have a2 := add_txt (x := y) (u := m.v) (by have := I.ly; omega) (by have := abW_len wm.v; omega)
    refine ⟨D', m.q, x ++ m.u.cps.toList, y ++ m.v.cps.toList, some (.v (.list (F.map mvD))), some (.v (mvD m)), ?_, .inr ⟨_, rfl⟩, ⟨.step I.w hmm p0, by rw [List.length_append, len_cps]; omega, by rw [List.length_append, len_cps]; omega, abW_app I.ax wm.u, abW_app I.ay wm.v⟩, f1⟩
    simp only [mParT, mNCons, mNNil, mFz, mBin, mB, mBor, mC, EO.bind, EO.st, EO.lift, two, Opd.get, List.getElem?_cons_zero, List.getElem?_cons_succ, i1, i2, i3, a1, a2]
    rfl

def WalksOk (Gk : Dk → List Dt → Res (Dt × Dk)) : Prop := ∀ (D : Dk) (k n long : Nat) (b : List Nat) (mv : List Mv) (e : List Nat), Fine k D → k < 800000 → long ≤ 20 → b.length ≤ 1000 → (∀ s ∈ b, s < n) → (∀ m ∈ mv, WayOk n long m) → mv.length ≤ 1000 →
    ∃ D', Fine (k + 20) D' ∧ (Gk D [wD n b mv e] = .ok (.none, D') ∨ ∃ s x y, Gk D [wD n b mv e] = .ok (.tuple [.str (txt x), .str (txt y), .int (s : Nat)], D') ∧ WkI n long b mv s x y)
theorem wk_all {G Gp Gk : Dk → List Dt → Res (Dt × Dk)} (hd : DrawOk G) (hp : PickOk Gp) (hG : ∀ (D : Dk) (d : Dt), Gk D [d] = outX (wkM G Gp [dkS D, some (.v d), none, none, none, none, none, none])) : WalksOk Gk := by
  intro D k n long b mv e hF hk hl hb hbn hm hmv
  cases hbe : b with
  | nil =>
    refine ⟨D, hF.up (by omega), .inl ?_⟩
    rw [hG]
    unfold wkM
    have c : mCmp fEqA (mB (mBin fDGet (mBor 1) (mB (mC (.str "in"))))) (mB (mTup mNil)) [dkS D, some (.v (wD n [] mv e)), none, none, none, none, none, none] = .ok true [dkS D, some (.v (wD n [] mv e)), none, none, none, none, none, none] := by
      have q : fEqA (natsD []) (.tuple []) = some true := rfl
      simp only [mCmp, mB, mBin, mBor, mC, mTup, mNil, fit, List.length_nil, if_pos (Nat.zero_le _), EO.bind, EO.lift, two, Opd.get, List.getElem?_cons_zero, List.getElem?_cons_succ, w_in, q]
    have r : mIfS (mCmp fEqA (mB (mBin fDGet (mBor 1) (mB (mC (.str "in"))))) (mB (mTup mNil))) (mRet (mC .none)) .nx [dkS D, some (.v (wD n [] mv e)), none, none, none, none, none, none] = .rt .none [dkS D, some (.v (wD n [] mv e)), none, none, none, none, none, none] := by
      rw [if_ok c]
      rfl
    unfold mSeq
    rw [r]
    rfl
  | cons b0 b1 =>
    rw [← hbe]
    have hne : b ≠ [] := by rw [hbe]; exact fun h => by cases h
    have c : mCmp fEqA (mB (mBin fDGet (mBor 1) (mB (mC (.str "in"))))) (mB (mTup mNil)) [dkS D, some (.v (wD n b mv e)), none, none, none, none, none, none] = .ok false [dkS D, some (.v (wD n b mv e)), none, none, none, none, none, none] := by
      have q : fEqA (natsD b) (.tuple []) = some false := by
        unfold natsD
        rw [eqA_nilT, hbe]
        rfl
      simp only [mCmp, mB, mBin, mBor, mC, mTup, mNil, fit, List.length_nil, if_pos (Nat.zero_le _), EO.bind, EO.lift, two, Opd.get, List.getElem?_cons_zero, List.getElem?_cons_succ, w_in, q]
    obtain ⟨d, D1, e1, hdm, f1⟩ := hp D k (natsD b) (b.map fun s : Nat => (.int s : Dt)) (.inr (.inl rfl)) hF (by omega) (by rw [List.length_map, hbe]; exact Nat.succ_pos _) (by rw [List.length_map]; omega)
    obtain ⟨s0, hs0, rfl⟩ := List.mem_map.mp hdm
    obtain ⟨m, D2, e2, hm8, f2⟩ := hd D1 (k + 1) 8 f1 (by omega) (by omega) (by omega)
    have x1 : mDraw 0 Gp (mCons (mBin fDGet (mBor 1) (mB (mC (.str "in")))) mNil) [dkS D, some (.v (wD n b mv e)), none, none, none, none, none, none] = .ok (.int s0) [dkS D1, some (.v (wD n b mv e)), none, none, none, none, none, none] := draw_at (ds := [natsD b]) (by
      simp only [mCons, mB, mBin, mBor, mC, mNil, EO.bind, EO.lift, two, Opd.get, List.getElem?_cons_zero, List.getElem?_cons_succ, w_in]) e1
    have x2 : mRng1 (mCons (mDraw 0 G (mCons (mC (.int 8)) mNil)) mNil) (wkS D1 (wD n b mv e) none s0 [] [] none none) = .ok ((List.range m).map fun s : Nat => (.int s : Dt)) (wkS D2 (wD n b mv e) none s0 [] [] none none) := by
      have y1 : mDraw 0 G (mCons (mC (.int 8)) mNil) (wkS D1 (wD n b mv e) none s0 [] [] none none) = .ok (.int m) (wkS D2 (wD n b mv e) none s0 [] [] none none) := draw_at (ds := [.int 8]) rfl e2
      generalize mDraw 0 G (mCons (mC (.int 8)) mNil) = B at y1 ⊢
      exact rng_of (small10 (by omega)) (by simp only [mCons, y1, mNil, EO.bind])
    rw [hG]
    unfold wkM
    rw [seq_nx (ss1 := [dkS D, some (.v (wD n b mv e)), none, none, none, none, none, none]) (by
      rw [if_ok c]
      rfl)]
    rw [seq_nx (ss1 := wkS D1 (wD n b mv e) none s0 [] [] none none) (by
      simp only [mParT, mNCons, mNNil, mFz, mC, x1, EO.bind, EO.st]
      rfl)]
    obtain ⟨ss', e3, D3, s, x, y, z2, z6, z7, rfl, hz7, I3, f3⟩ := forGo_ix (g := gNm 2) (n := wkBody Gp) (fun s : Nat => (.int s : Dt)) (fun j ss => ∃ D3 s x y z2 z6 z7, ss = wkS D3 (wD n b mv e) z2 s x y z6 z7 ∧ (z7 = none ∨ ∃ d, z7 = some (.v d)) ∧ WkI n long b mv s x y ∧ Fine (k + 2 + j) D3) (List.range m) (fun j ss hj => by
      rintro ⟨D3, s, x, y, z2, z6, z7, rfl, hz7, I3, f3⟩
      rw [List.length_range] at hj
      obtain ⟨D4, s', x', y', z6', z7', st, hz', I4, f4⟩ := wk_step (z2 := some (.v (.int ((List.range m)[j]'(by rw [List.length_range]; exact hj))))) (e := e) (z6 := z6) hp hz7 hl hm hmv I3 f3 (by omega)
      exact ⟨_, _, rfl, .inl st, D4, s', x', y', _, z6', z7', rfl, hz', I4, f4.up (by omega)⟩) (wkS D2 (wD n b mv e) none s0 [] [] none none) ⟨D2, s0, [], [], none, none, none, rfl, .inl rfl, ⟨.base hs0, by simp, by simp, fun _ h => (by cases h), fun _ h => (by cases h)⟩, f2.up (by omega)⟩
    rw [List.length_range] at f3
    rw [seq_nx (by rw [for_ok x2]; exact e3)]
    exact ⟨D3, f3.up (by omega), .inr ⟨s, x, y, ret_ok rfl, I3⟩⟩
end VL

namespace VL
open PySem PySem.Spec L2
open PyProof.Rows hiding St
variable [WW]
theorem StOk.of {n : Nat} {l : List Nat} (h : l.Sublist (List.range n)) (hn : n ≤ 1000) : StOk n l where
  lt := fun s hs => List.mem_range.mp (h.subset hs)
  up := List.pairwise_lt_range.sublist h
  len := by have := h.length_le; rw [List.length_range] at this; omega
theorem abW_letW {long : Nat} {u : Str} (h : abW long u) (hl : long ≤ 1000) : letW u = true := by
  obtain ⟨cs, rfl, l, w⟩ := h
  unfold letW
  rw [Bool.and_eq_true]
  refine ⟨List.all_eq_true.mpr fun c hc => ?_, decide_eq_true (by rw [txt_len]; omega)⟩
  have := w c (by simpa [txt] using hc)
  simp only [List.mem_cons, List.not_mem_nil, or_false] at this
  rcases this with rfl | rfl <;> decide
theorem PlanOk.pc {top many long n : Nat} {b e : List Nat} {mv : List Mv} (P : PlanOk top many long n b mv e) (h1 : top ≤ 10) (h2 : many ≤ 20) (h3 : long ≤ 20) : PcOk n b mv e := by
  obtain ⟨p1, p2, p3, p4, p5, p6⟩ := P
  exact ⟨p1, .of p3 (by omega), .of p4 (by omega), fun m hm => ⟨(p6 m hm).p, (p6 m hm).q, abW_letW (p6 m hm).u (by omega), abW_letW (p6 m hm).v (by omega)⟩, by omega⟩
theorem letW_len {z : Str} (h : letW z = true) : z.length ≤ 1000 := by
  unfold letW at h
  rw [Bool.and_eq_true] at h
  exact of_decide_eq_true h.2
theorem PcOk.px {n : Nat} {b e : List Nat} {mv : List Mv} (P : PcOk n b mv e) (hn : n ≤ 8) (hl : mv.length ≤ 50) {x y : Str} (hx : x.length ≤ 30) (hy : y.length ≤ 30) : PX n b mv e x y where
  hb := P.hb.lt
  hm := fun m hm => ⟨(P.hm m hm).1, (P.hm m hm).2.1, letW_len (P.hm m hm).2.2.1, letW_len (P.hm m hm).2.2.2⟩
  hx := by omega
  hy := by omega
  he := P.he.len
  l := P.l
  z := by
    have h1 : (x.length + 1) * (y.length + 1) ≤ 31 * 31 := Nat.mul_le_mul (by omega) (by omega)
    have h2 : n * ((x.length + 1) * (y.length + 1)) ≤ 8 * (31 * 31) := Nat.mul_le_mul hn h1
    have h3 : n * ((x.length + 1) * (y.length + 1)) * (mv.length + 1) ≤ 8 * (31 * 31) * 51 := Nat.mul_le_mul h2 (by omega)
    have := P.hb.len
    omega
theorem ne_bool (a : Bool) : fNeA (.bool a) (.bool a) = some false := by cases a <;> rfl
theorem repr3 (a : Bool) : ∃ s, fRepr [.list [.bool a, .bool a, .bool a]] = some (.str s) := by
  cases a
  · refine ⟨(PyData.list [.bool false, .bool false, .bool false]).shown, ?_⟩
    have c : canRepr (PyData.list [.bool false, .bool false, .bool false]) = true := by decide +kernel
    unfold fRepr
    dsimp only
    rw [if_pos c]
  · refine ⟨(PyData.list [.bool true, .bool true, .bool true]).shown, ?_⟩
    have c : canRepr (PyData.list [.bool true, .bool true, .bool true]) = true := by decide +kernel
    unfold fRepr
    dsimp only
    rw [if_pos c]
theorem draw_1 {G : Dk → List Dt → Res (Dt × Dk)} {m : SS → EO (List Dt)} {a : Addr} {z0 : Option SV} {D D' : Dk} {r r' : List (Option SV)} {ds : List Dt} {d : Dt} (hm : m (z0 :: some (.dk a D.1 D.2.1 D.2.2) :: r) = .ok ds (z0 :: some (.dk a D.1 D.2.1 D.2.2) :: r')) (h : G D ds = .ok (d, D')) : mDraw 1 G m (z0 :: some (.dk a D.1 D.2.1 D.2.2) :: r) = .ok d (z0 :: some (.dk a D'.1 D'.2.1 D'.2.2) :: r') := by
  obtain ⟨q, b, c⟩ := D
  obtain ⟨q', b', c'⟩ := D'
  simp [mDraw, hm, EO.bind, h]

theorem cut_len (z : Str) (lo hi : Option Int) : (cutS z lo hi).length ≤ z.length := by
  show ((z.cps.toList.drop (HT.sIx z.length 0 lo)).take (HT.sIx z.length z.length hi - HT.sIx z.length 0 lo)).toArray.size ≤ z.length
  rw [List.size_toArray]
  rw [List.length_take, List.length_drop, len_cps]
  omega
theorem app_len (a b : Str) : (a ++ b).length = a.length + b.length := by
  show (a.cps ++ b.cps).size = a.cps.size + b.cps.size
  exact Array.size_append
theorem add_str {a b : Str} (ha : a.length ≤ 1000) (hb : b.length ≤ 1000) : gAdd (.str a) (.str b) = some (.str (a ++ b)) := by
  have h : a.length + b.length ≤ sizeLine := Nat.le_trans (show a.length + b.length ≤ 2000 by omega) (by decide)
  have e : gAddS (.str a) (.str b) = some (.str (a ++ b)) := if_pos h
  have g : gAdd (.str a) (.str b) = alt gAddS (alt gAddT gAddL) (.str a) (.str b) := rfl
  rw [g]
  unfold alt
  rw [e]
theorem sl_str {z : Str} (h : z.length ≤ 1000) (lo hi : Option Int) : fSl (.str z) lo hi = some (.str (cutS z lo hi)) := if_pos (Nat.le_trans h (by decide))
theorem in_nats (s : Nat) (l : List Nat) : fInA (.int (s : Nat)) (natsD l) = some (decide (s ∈ l)) := by
  have f : (l.map fun s : Nat => (.int s : Dt)).all flatD = true := by
    rw [List.all_map]
    exact List.all_eq_true.mpr fun _ _ => rfl
  have e : fInSeq false (.int (s : Nat)) (natsD l) = some (decide (s ∈ l)) := by
    unfold fInSeq natsD
    simp only [seqD]
    rw [if_pos ⟨rfl, f⟩]
    simp only [Bool.false_eq_true, if_false]
    congr 1
    unfold inV
    rw [List.map_map, List.any_map, Bool.eq_iff_iff, List.any_eq_true, decide_eq_true_eq]
    constructor
    · rintro ⟨t, ht, h⟩
      have h : eqV (V.int (t : Int)) (V.int (s : Int)) = true := h
      simp [eqV] at h
      have : t = s := by omega
      exact this ▸ ht
    · intro h
      refine ⟨s, h, ?_⟩
      show eqV (V.int (s : Int)) (V.int (s : Int)) = true
      simp [eqV]
  show alt fIn (fInX false) _ _ = _
  have g : fIn (.int (s : Nat)) (natsD l) = some (decide (s ∈ l)) := by
    show alt (fSign false) (alt (fInSeq false) (fInD false)) _ _ = _
    unfold alt
    rw [show fSign false (.int (s : Nat)) (natsD l) = none from rfl, e]
  unfold alt
  rw [g]
def fIsB (neg : Bool) : Dt → Dt → Option Bool := fun d e => match d, e with
  | .bool a, .bool b => some (if neg then !decide (a = b) else decide (a = b))
  | _, _ => none
section
variable {ι : Type} {X : ι → Cx} {K : PySem.W.Frag}
theorem c_isB : CmpS X K .Is (fIsB false) := by
  refine ⟨_, fun _ => op_is_bl, fun ω H x y d e z Q bx by' hf q => ?_⟩
  unfold fIsB at hf
  split at hf
  · cases hf
    have h1 := bx.rp
    have h2 := by'.rp
    cases h1
    cases h2
    exact ⟨_, _, rfl, rfl, q⟩
  · cases hf
theorem c_isNotB : CmpS X K .IsNot (fIsB true) := by
  refine ⟨_, fun _ => op_isnot_bl, fun ω H x y d e z Q bx by' hf q => ?_⟩
  unfold fIsB at hf
  split at hf
  · cases hf
    have h1 := bx.rp
    have h2 := by'.rp
    cases h1
    cases h2
    exact ⟨_, _, rfl, rfl, q⟩
  · cases hf
def fIsA : Dt → Dt → Option Bool := alt fIs (fIsB false)
def fIsNotA : Dt → Dt → Option Bool := alt fIsNot (fIsB true)
theorem c_isA : CmpS X K .Is fIsA := c_is.or c_isB
theorem c_isNotA : CmpS X K .IsNot fIsNotA := c_isNot.or c_isNotB
end
end VL

namespace VL
open PySem PySem.Spec L2
open PyProof.Rows hiding St
variable [WW]
def clo (mv : List Mv) (x y : Str) : Nat → List Pl → List Pl → List Pl
  | 0, seen, _ => seen
  | _ + 1, seen, [] => seen
  | k + 1, seen, p :: todo => if p ∈ seen then clo mv x y k seen todo else clo mv x y k (p :: seen) (nxs mv x y p ++ todo)
theorem clo_reach {b : List Nat} {mv : List Mv} {x y : Str} : ∀ (k : Nat) (seen todo : List Pl), (∀ p ∈ seen, Reach (begB b) (nxs mv x y) p) → (∀ p ∈ todo, Reach (begB b) (nxs mv x y) p) → ∀ p ∈ clo mv x y k seen todo, Reach (begB b) (nxs mv x y) p
  | 0, seen, _, h1, _ => h1
  | _ + 1, seen, [], h1, _ => h1
  | k + 1, seen, p :: todo, h1, h2 => by
    rw [clo]
    split
    · exact clo_reach k seen todo h1 fun q hq => h2 q (List.mem_cons_of_mem _ hq)
    · have hp := h2 p (List.mem_cons_self ..)
      refine clo_reach k (p :: seen) (nxs mv x y p ++ todo) (fun q hq => ?_) fun q hq => ?_
      · rcases List.mem_cons.mp hq with rfl | hq
        · exact hp
        · exact h1 q hq
      · rcases List.mem_append.mp hq with hq | hq
        · exact .step hp hq
        · exact h2 q (List.mem_cons_of_mem _ hq)
def closedB (b : List Nat) (mv : List Mv) (x y : Str) (S : List Pl) : Bool := (begB b).all (fun p => decide (p ∈ S)) && S.all fun p => (nxs mv x y p).all fun q => decide (q ∈ S)
def askB (b : List Nat) (mv : List Mv) (e : List Nat) (x y : Str) (k : Nat) : Bool := e.any fun s => decide ((s, x.length, y.length) ∈ clo mv x y k [] (begB b))
theorem tells_ask {b : List Nat} {mv : List Mv} {e : List Nat} {x y : Str} {k : Nat} (hc : closedB b mv x y (clo mv x y k [] (begB b)) = true) : askB b mv e x y k = true ↔ Tells b mv e x y := by
  unfold closedB at hc
  rw [Bool.and_eq_true, List.all_eq_true, List.all_eq_true] at hc
  have all : ∀ p, Reach (begB b) (nxs mv x y) p → p ∈ clo mv x y k [] (begB b) := by
    intro p hp
    induction hp with
    | base h => exact of_decide_eq_true (hc.1 _ h)
    | step _ hq ih => exact of_decide_eq_true (List.all_eq_true.mp (hc.2 _ ih) _ hq)
  unfold askB Tells
  rw [List.any_eq_true]
  constructor
  · rintro ⟨s, hs, h⟩
    exact ⟨s, hs, clo_reach k [] (begB b) (fun _ h => by cases h) (fun p hp => .base hp) _ (of_decide_eq_true h)⟩
  · rintro ⟨s, hs, h⟩
    exact ⟨s, hs, decide_eq_true (all _ h)⟩
def stB (n : Nat) (l : List Nat) : Bool := l.all (fun s => decide (s < n)) && decide (l.Pairwise (· < ·)) && decide (l.length ≤ 1000)
theorem stB_ok {n : Nat} {l : List Nat} (h : stB n l = true) : StOk n l := by
  unfold stB at h
  simp only [Bool.and_eq_true, decide_eq_true_eq, List.all_eq_true] at h
  exact ⟨h.1.1, h.1.2, h.2⟩
def pcB (n : Nat) (b : List Nat) (mv : List Mv) (e : List Nat) : Bool := decide (1 ≤ n) && stB n b && stB n e && mv.all (fun m => decide (m.p < n) && decide (m.q < n) && letW m.u && letW m.v) && decide (mv.length ≤ 1000)
theorem pcB_ok {n : Nat} {b e : List Nat} {mv : List Mv} (h : pcB n b mv e = true) : PcOk n b mv e := by
  unfold pcB at h
  simp only [Bool.and_eq_true, decide_eq_true_eq, List.all_eq_true] at h
  exact ⟨h.1.1.1.1, stB_ok h.1.1.1.2, stB_ok h.1.1.2, fun m hm => ⟨(h.1.2 m hm).1.1.1, (h.1.2 m hm).1.1.2, (h.1.2 m hm).1.2, (h.1.2 m hm).2⟩, h.2⟩
end VL

namespace VL
open PySem PySem.Spec L2
open PyProof.Rows hiding St
variable [WW]
def lc2Go (vs vs1 : List Nat) (g : Dt → SS → Option SS) (mt : SS → EO Bool) (mi : SS → EO (List Dt)) (g1 : Dt → SS → Option SS) (mt1 : SS → EO Bool) (me : SS → EO Dt) : List Dt → SS → List Dt → EO (List Dt)
  | [], ss, acc => .ok acc ss
  | d :: ds, ss, acc => match g d ss with
    | none => .no
    | some ss1 => (mt ss1).calm.bind fun z ss2 => if z = true then (mi ss2).calm.bind fun items1 ss3 => (lcGo vs1 g1 mt1 me items1 (wipeS ss3 vs1) acc).bind fun acc' ss4 => lc2Go vs vs1 g mt mi g1 mt1 me ds (wipeS ss4 vs) acc' else lc2Go vs vs1 g mt mi g1 mt1 me ds (wipeS ss2 vs) acc
def mLc2 (m : SS → EO (List Dt)) (vs vs1 : List Nat) (g : Dt → SS → Option SS) (mt : SS → EO Bool) (mi : SS → EO (List Dt)) (g1 : Dt → SS → Option SS) (mt1 : SS → EO Bool) (me : SS → EO Dt) : SS → EO Dt := fun ss => (m ss).bind fun items ss1 => (lc2Go vs vs1 g mt mi g1 mt1 me items (wipeS ss1 vs) []).bind fun acc ss2 => .ok (.list acc) (restS ss1 ss2 vs)
section
variable {ι : Type} {X : ι → Cx} {k : Nat} {P : Program} {w : World} {K : PySem.W.Frag} {mg : Str → Option Value} {base : Heap} {W : WX} {e a b c : Expr} {es : List Expr} {pos : Pos}
theorem wipe_sub {σ : St} {vs vs1 : List Nat} (h : ∀ i ∈ vs1, i ∈ vs) : wipe (wipe σ vs1) vs = wipe σ vs := by
  apply List.ext_getElem?
  intro i
  by_cases hi : i ∈ vs
  · by_cases hl : i < σ.length
    · rw [wipe_in (by rw [wipe_length]; exact hl) hi, wipe_in hl hi]
    · rw [List.getElem?_eq_none (by rw [wipe_length, wipe_length]; omega), List.getElem?_eq_none (by rw [wipe_length]; omega)]
  · rw [wipe_out hi, wipe_out hi, wipe_out (fun z => hi (h i z))]
theorem lc2_go {vs vs1 gi gi1 : List Nat} {m mi : SS → EO (List Dt)} {g g1 : Dt → SS → Option SS} {mt mt1 : SS → EO Bool} {me : SS → EO Dt} {wi wi1 : TI} {t t1 : TG} {tt tt1 : TT} {te : TE}
    (a2 : ∀ ω ss σ H R, RS K ω ss σ H → EQg (fun ω' H' (J : It) items => WalkJ K (hid ω' H') items J) K mg W ω σ H (m ss) R → wi σ H R)
    (b2 : ∀ ω ss σ H x d ss' (Q : St → Hp → Prop), RS K ω ss σ H → Rp K (hid ω H) x d → g d ss = some ss' → (∀ ω' σ', RS K ω' ss' σ' H → Frm ω H ω' H → Off gi σ σ' → Q σ' H) → t x σ H Q)
    (c2 : ∀ ω ss σ H Q, RS K ω ss σ H → EQg EqB K mg WF ω σ H (mt ss) Q → tt σ H Q)
    (a3 : ∀ ω ss σ H R, RS K ω ss σ H → EQg (fun ω' H' (J : It) items => WalkJ K (hid ω' H') items J) K mg WF ω σ H (mi ss) R → wi1 σ H R)
    (b3 : ∀ ω ss σ H x d ss' (Q : St → Hp → Prop), RS K ω ss σ H → Rp K (hid ω H) x d → g1 d ss = some ss' → (∀ ω' σ', RS K ω' ss' σ' H → Frm ω H ω' H → Off gi1 σ σ' → Q σ' H) → t1 x σ H Q)
    (c3 : ∀ ω ss σ H Q, RS K ω ss σ H → EQg EqB K mg WF ω σ H (mt1 ss) Q → tt1 σ H Q)
    (d2 : ∀ ω ss σ H Q, RS K ω ss σ H → EQg (RpE K) K mg WF ω σ H (me ss) Q → te σ H Q) (hgi : ∀ j ∈ gi, j ∈ vs) (hgi1 : ∀ j ∈ gi1, j ∈ vs1) (hvs : ∀ j ∈ vs1, j ∈ vs)
    {k : Nat} {ω : Om} {ss : SS} {σ : St} {H : Hp} {Q : VK} (hk : 1000 ≤ k) (rs : RS K ω ss σ H) (q : EQg (NewR K H k) K mg W ω σ H (mLc2 m vs vs1 g mt mi g1 mt1 me ss) Q) : tLc2 wi t tt wi1 t1 tt1 te vs vs1 σ H Q := by
  refine a2 ω ss σ H _ rs (seqE0 (R := fun ω' H' (J : It) items => WalkJ K (hid ω' H') items J) (R2 := NewR K H k) q fun items ss1 ω1 H1 J _ rs1 fr1 wj q1 => ?_)
  intro D hD
  have hD0 : H D = none := fr1.tr D hD
  have hDω : ω D = none := rs.free hD0
  obtain ⟨ω2, e2, rs2, fr2, hs2⟩ := (rs1.wipe vs).new (o := .lst []) hk hD
  refine ⟨fun i mm H' => mm = items.length - i ∧ i ≤ items.length ∧ ∃ ω3 ss3 acc xs, RS K ω3 ss3 (wipe σ vs) H' ∧ Frm ω H ω3 H' ∧ Same (hid ω1 H1) (hid ω3 H') ∧ ω3 D = some k ∧ H' D = some (.lst xs) ∧ RpA K (hid ω3 H') xs acc ∧
      EQg (NewR K H k) K mg W ω σ H ((lc2Go vs vs1 g mt mi g1 mt1 me (items.drop i) ss3 acc).bind fun acc ss2 => .ok (.list acc) (restS ss1 ss2 vs)) Q,
    ⟨_, rfl, Nat.zero_le _, ω2, _, [], [], rs2, fr1.trans fr2, hs2, e2, upd_same, .nil, q1⟩, ?_⟩
  rintro i mm H3 ⟨rfl, hle, ω3, ss3, acc, xs, rs3, fr3, sm3, e3, hx3, rp3, q3⟩
  obtain ⟨wgo, wstop⟩ := wj H3 i (sm3.trans hid_le)
  by_cases hlt : i < items.length
  · obtain ⟨go, yl⟩ := wgo _ (List.getElem?_eq_getElem hlt)
    have hdr : items.drop i = items[i] :: items.drop (i + 1) := List.drop_eq_getElem_cons hlt
    rw [hdr] at q3
    refine .inr ⟨go, fun H' => ∃ ω3 ss3 acc xs, RS K ω3 ss3 (wipe σ vs) H' ∧ Frm ω H ω3 H' ∧ Same (hid ω1 H1) (hid ω3 H') ∧ ω3 D = some k ∧ H' D = some (.lst xs) ∧ RpA K (hid ω3 H') xs acc ∧
      EQg (NewR K H k) K mg W ω σ H ((lc2Go vs vs1 g mt mi g1 mt1 me (items.drop (i + 1)) ss3 acc).bind fun acc ss2 => .ok (.list acc) (restS ss1 ss2 vs)) Q, fun H' hN => ⟨items.length - (i + 1), by omega, rfl, hlt, hN⟩, fun x H4 hy => ?_⟩
    obtain ⟨sm, rp⟩ := yl x H4 hy
    have rs4 := rs3.grow sm
    have fr4 : Frm ω3 H3 ω3 H4 := .grow sm rs3.own
    have rp4 : Rp K (hid ω3 H4) x items[i] := rp _ (sm3.trans fr4.fz) fun a o h1 h2 => by
      rw [hid_of (rs3.free h2)]
      exact h1
    rw [lc2Go] at q3
    cases hgs : g items[i] ss3 with
    | none => rw [hgs] at q3; exact q3.elim
    | some ss4 =>
      rw [hgs] at q3
      dsimp only at q3
      refine b2 ω3 ss3 _ H4 x _ ss4 _ rs4 rp4 hgs fun ω5 σ5 rs5 fr5 off => ?_
      have ew : wipe σ5 vs = wipe σ vs := wipe_off off hgi
      refine ⟨ew, ?_⟩
      refine c2 ω5 ss4 σ5 H4 _ rs5 ?_
      cases hmt : mt ss4 with
      | no => rw [hmt] at q3; exact q3.elim
      | exc c fs s' => rw [hmt] at q3; exact q3.elim
      | ok z ss5 =>
        rw [hmt] at q3
        intro ω6 H6 z' rs6 fr6 ez
        have ez : z' = z := ez
        subst ez
        have fr46 : Frm ω3 H3 ω6 H6 := (fr4.trans fr5).trans fr6
        have q3 : EQg (NewR K H k) K mg W ω σ H ((if z' = true then (mi ss5).calm.bind fun items1 ss3 => (lcGo vs1 g1 mt1 me items1 (wipeS ss3 vs1) acc).bind fun acc' ss4 => lc2Go vs vs1 g mt mi g1 mt1 me (items.drop (i + 1)) (wipeS ss4 vs) acc' else lc2Go vs vs1 g mt mi g1 mt1 me (items.drop (i + 1)) (wipeS ss5 vs) acc).bind fun acc ss2 => .ok (.list acc) (restS ss1 ss2 vs)) Q := q3
        obtain ⟨t1', t2'⟩ := fr46.tp D k hk e3
        cases z' with
        | false =>
          rw [if_neg Bool.false_ne_true] at q3 ⊢
          have rw' := rs6.wipe vs
          rw [ew] at rw'
          exact ⟨ω6, _, acc, xs, rw', fr3.trans fr46, sm3.trans fr46.fz, t1', t2'.trans hx3, RpA.mono fr46.fz _ _ rp3, q3⟩
        | true =>
          rw [if_pos rfl] at q3 ⊢
          refine a3 ω6 ss5 σ5 H6 _ rs6 ?_
          cases hmi : mi ss5 with
          | no => rw [hmi] at q3; exact q3.elim
          | exc c fs s' => rw [hmi] at q3; exact q3.elim
          | ok items1 ss6 =>
            rw [hmi] at q3
            intro ω7 H7 J1 rs7 fr7 wj1
            obtain ⟨rest, hrest⟩ : ∃ rest : List Dt → SS → EO Dt, rest = fun acc' ss4 => (lc2Go vs vs1 g mt mi g1 mt1 me (items.drop (i + 1)) (wipeS ss4 vs) acc').bind fun acc ss2 => .ok (.list acc) (restS ss1 ss2 vs) := ⟨_, rfl⟩
            have q3 : EQg (NewR K H k) K mg W ω σ H ((lcGo vs1 g1 mt1 me items1 (wipeS ss6 vs1) acc).bind rest) Q := by
              rw [hrest]
              have q4 : EQg (NewR K H k) K mg W ω σ H (((lcGo vs1 g1 mt1 me items1 (wipeS ss6 vs1) acc).bind fun acc' ss4 => lc2Go vs vs1 g mt mi g1 mt1 me (items.drop (i + 1)) (wipeS ss4 vs) acc').bind fun acc ss2 => .ok (.list acc) (restS ss1 ss2 vs)) Q := q3
              cases hl : lcGo vs1 g1 mt1 me items1 (wipeS ss6 vs1) acc <;> (rw [hl] at q4; exact q4)
            have fr47 := fr46.trans fr7
            obtain ⟨u1, u2⟩ := fr47.tp D k hk e3
            refine ⟨fun j kk H' => kk = items1.length - j ∧ j ≤ items1.length ∧ ∃ ω8 ss8 acc xs, RS K ω8 ss8 (wipe σ5 vs1) H' ∧ Frm ω H ω8 H' ∧ Same (hid ω1 H1) (hid ω8 H') ∧ Same (hid ω7 H7) (hid ω8 H') ∧ ω8 D = some k ∧ H' D = some (.lst xs) ∧ RpA K (hid ω8 H') xs acc ∧ EQg (NewR K H k) K mg W ω σ H ((lcGo vs1 g1 mt1 me (items1.drop j) ss8 acc).bind rest) Q,
              ⟨_, rfl, Nat.zero_le _, ω7, _, acc, xs, rs7.wipe vs1, fr3.trans fr47, sm3.trans fr47.fz, fun _ _ z => z, u1, u2.trans hx3, RpA.mono fr47.fz _ _ rp3, q3⟩, ?_⟩
            rintro j kk H8 ⟨rfl, hle1, ω8, ss8, acc8, xs8, rs8, fr8, sm8, sm7, e8, hx8, rp8, q8⟩
            obtain ⟨wgo1, wstop1⟩ := wj1 H8 j (sm7.trans hid_le)
            by_cases hlt1 : j < items1.length
            · obtain ⟨go1, yl1⟩ := wgo1 _ (List.getElem?_eq_getElem hlt1)
              rw [List.drop_eq_getElem_cons hlt1] at q8
              refine .inr ⟨go1, fun H' => ∃ ω8 ss8 acc xs, RS K ω8 ss8 (wipe σ5 vs1) H' ∧ Frm ω H ω8 H' ∧ Same (hid ω1 H1) (hid ω8 H') ∧ Same (hid ω7 H7) (hid ω8 H') ∧ ω8 D = some k ∧ H' D = some (.lst xs) ∧ RpA K (hid ω8 H') xs acc ∧ EQg (NewR K H k) K mg W ω σ H ((lcGo vs1 g1 mt1 me (items1.drop (j + 1)) ss8 acc).bind rest) Q, fun H' hN => ⟨items1.length - (j + 1), by omega, rfl, hlt1, hN⟩, fun x9 H9 hy1 => ?_⟩
              obtain ⟨smA, rpA⟩ := yl1 x9 H9 hy1
              have rs9 := rs8.grow smA
              have fr9 : Frm ω8 H8 ω8 H9 := .grow smA rs8.own
              have rp9 : Rp K (hid ω8 H9) x9 items1[j] := rpA _ (sm7.trans fr9.fz) fun a o h1 h2 => by
                rw [hid_of (rs8.free h2)]
                exact h1
              rw [lcGo] at q8
              cases hgs1 : g1 items1[j] ss8 with
              | none => rw [hgs1] at q8; exact q8.elim
              | some ss9 =>
                rw [hgs1] at q8
                dsimp only at q8
                refine b3 ω8 ss8 _ H9 x9 _ ss9 _ rs9 rp9 hgs1 fun ωa σa rsa fra offa => ?_
                have ewa : wipe σa vs1 = wipe σ5 vs1 := wipe_off offa hgi1
                refine ⟨ewa, ?_⟩
                refine c3 ωa ss9 σa H9 _ rsa ?_
                cases hmt1 : mt1 ss9 with
                | no => rw [hmt1] at q8; exact q8.elim
                | exc c fs s' => rw [hmt1] at q8; exact q8.elim
                | ok z1 ssb =>
                  rw [hmt1] at q8
                  intro ωb Hb zb rsb frb ezb
                  have ezb : zb = z1 := ezb
                  subst ezb
                  have frab : Frm ω8 H8 ωb Hb := (fr9.trans fra).trans frb
                  have q8 : EQg (NewR K H k) K mg W ω σ H ((if zb = true then (me ssb).calm.bind fun y ss3 => if acc8.length < sizeLine then lcGo vs1 g1 mt1 me (items1.drop (j + 1)) (wipeS ss3 vs1) (acc8 ++ [y]) else .no else lcGo vs1 g1 mt1 me (items1.drop (j + 1)) (wipeS ssb vs1) acc8).bind rest) Q := q8
                  obtain ⟨v1, v2⟩ := frab.tp D k hk e8
                  cases zb with
                  | false =>
                    rw [if_neg Bool.false_ne_true] at q8 ⊢
                    have rw' := rsb.wipe vs1
                    rw [ewa] at rw'
                    exact ⟨ωb, _, acc8, xs8, rw', fr8.trans frab, sm8.trans frab.fz, sm7.trans frab.fz, v1, v2.trans hx8, RpA.mono frab.fz _ _ rp8, q8⟩
                  | true =>
                    rw [if_pos rfl] at q8 ⊢
                    refine d2 ωb ssb σa Hb _ rsb ?_
                    cases hme : me ssb with
                    | no => rw [hme] at q8; exact q8.elim
                    | exc c fs s' => rw [hme] at q8; exact q8.elim
                    | ok y ssc =>
                      rw [hme] at q8
                      intro ωc Hc yv rsc frc rpc
                      have q8 : EQg (NewR K H k) K mg W ω σ H ((if acc8.length < sizeLine then lcGo vs1 g1 mt1 me (items1.drop (j + 1)) (wipeS ssc vs1) (acc8 ++ [y]) else .no).bind rest) Q := q8
                      have frac := frab.trans frc
                      obtain ⟨y1, y2⟩ := frac.tp D k hk e8
                      have rp8' : RpA K (hid ωc Hc) xs8 acc8 := RpA.mono frac.fz _ _ rp8
                      split at q8
                      · rename_i hz
                        have rw' := rsc.wipe vs1
                        rw [ewa] at rw'
                        obtain ⟨m1, m2⟩ := rw'.mutT (o := .lst (xs8 ++ [yv])) hk y1
                        refine ⟨xs8, y2.trans hx8, by rw [rp8'.length]; exact hz, ωc, _, acc8 ++ [y], xs8 ++ [yv], m1, (fr8.trans frac).mutT hDω hD0 y1, by rw [m2]; exact sm8.trans frac.fz, by rw [m2]; exact sm7.trans frac.fz, y1, upd_same, by rw [m2]; exact rp8'.app (.one rpc), q8⟩
                      · exact q8.elim
            · have ej : j = items1.length := by omega
              rw [List.drop_of_length_le (by omega)] at q8
              have rw' := rs8.wipe vs
              rw [wipe_sub hvs, ew] at rw'
              rw [hrest] at q8
              exact .inl ⟨wstop1 ej, ω8, _, acc8, xs8, rw', fr8, sm8, e8, hx8, rp8, q8⟩
  · have ei : i = items.length := by omega
    rw [List.drop_of_length_le (by omega)] at q3
    exact .inl ⟨wstop ei, q3 ω3 H3 (.ref D) (rs1.rest rs3 sm3) fr3 ⟨D, rfl, hD0, e3, .inl ⟨_, _, rfl, hx3, rp3⟩⟩⟩
theorem o_lc2 (C : VC X k P w K mg base W) {tg it tg1 it1 elt : Expr} {ifs ifs1 : List Expr} {scope : Scope} {own : List (Str × Nat)} {vs1 gi gi1 : List Nat} {m mi : SS → EO (List Dt)} {g g1 : Dt → SS → Option SS} {mt mt1 : SS → EO Bool} {me : SS → EO Dt}
    (ok : ∀ i, BlkOk (X i).N (X i).env.scope scope own) (hi : VI X K mg W tg it m) (hg : VG (blkX X scope) K tg gi g) (ht : VTs (blkX X scope) K mg WF ifs mt) (hi1 : VI (blkX X scope) K mg WF tg1 it1 mi) (hg1 : VG (blkX X scope) K tg1 gi1 g1) (ht1 : VTs (blkX X scope) K mg WF ifs1 mt1) (he : VE (blkX X scope) K mg WF elt me)
    (hvs : ∀ j ∈ vs1, j ∈ own.map (·.2)) (hgi : ∀ j ∈ gi, j ∈ own.map (·.2) := by decide) (hgi1 : ∀ j ∈ gi1, j ∈ vs1 := by decide)
    (hs : ∀ i x, foldedSetIterable it (X i).env x = pure x := by intro _ _; rfl) (hs1 : ∀ env x, foldedSetIterable it1 env x = pure x := by intro _ _; rfl) : VO X K mg W (.ListComp elt [⟨tg, it, ifs, 0⟩, ⟨tg1, it1, ifs1, 0⟩] scope pos) (mLc2 m (own.map (·.2)) vs1 g mt mi g1 mt1 me) := by
  obtain ⟨wi, a1, a2⟩ := hi.ex
  obtain ⟨t, b1, b2⟩ := hg.ex
  obtain ⟨tt, c1, c2⟩ := ht.ex
  obtain ⟨wi1, a3, a4⟩ := hi1.ex
  obtain ⟨t1, b3, b4⟩ := hg1.ex
  obtain ⟨tt1, c3, c4⟩ := ht1.ex
  obtain ⟨te, d1, d2⟩ := he.ex
  exact ⟨_, fun i => pe_lc2 (C.ca i) (C.nd i) (a1 i) (ok i) hvs (fun s H Ca cl fp => b1 (i, s, H, Ca, cl, fp)) (fun s H Ca cl fp => c1 (i, s, H, Ca, cl, fp)) (fun s H Ca cl fp => a3 (i, s, H, Ca, cl, fp)) (fun s H Ca cl fp => b3 (i, s, H, Ca, cl, fp)) (fun s H Ca cl fp => c3 (i, s, H, Ca, cl, fp)) (fun s H Ca cl fp => d1 (i, s, H, Ca, cl, fp)) (hs i) hs1, fun k ω ss σ H Q hk rs q => lc2_go a2 b2 c2 a4 b4 c4 d2 hgi hgi1 hvs hk rs q⟩
end
end VL

namespace VL
open PySem PySem.Spec L2
open PyProof.Rows hiding St
variable [WW]
section
variable {S S1 S2 S3 S4 : SS}
theorem e_C {d : Dt} : mC d S = .ok d S := rfl
theorem e_Var {i : Nat} {d : Dt} (h : S[i]? = some (some (.v d))) : mVar i S = .ok d S := by unfold mVar; rw [h]
theorem e_VarO {i : Nat} {d : Dt} (h : S[i]? = some (some (.o d))) (hs : S.set i (some (.v d)) = S1) : mVar i S = .ok d S1 := by unfold mVar; rw [h, ← hs]
theorem e_Bor {i : Nat} {d : Dt} (h : S[i]? = some (some (.v d))) : mBor i S = .ok (.da d) S := by unfold mBor; rw [h]
theorem e_BorO {i : Nat} {d : Dt} (h : S[i]? = some (some (.o d))) : mBor i S = .ok (.nm i) S := by unfold mBor; rw [h]
theorem e_BorS {i : Nat} {a : Addr} {d : Dt} (h : S[i]? = some (some (.se a d))) : mBor i S = .ok (.nm i) S := by unfold mBor; rw [h]
theorem e_B {m : SS → EO Dt} {d : Dt} (h : m S = .ok d S1) : mB m S = .ok (.da d) S1 := by unfold mB; rw [h]; rfl
theorem e_Nil : mNil S = .ok [] S := rfl
theorem e_Cons {m : SS → EO Dt} {n : SS → EO (List Dt)} {d : Dt} {ds : List Dt} (h : m S = .ok d S1) (g : n S1 = .ok ds S2) : mCons m n S = .ok (d :: ds) S2 := by unfold mCons; rw [h]; simp only [EO.bind, g]
theorem e_NilB : mNilB S = .ok [] S := rfl
theorem e_ConsB {m : SS → EO Opd} {n : SS → EO (List Opd)} {d : Opd} {ds : List Opd} (h : m S = .ok d S1) (g : n S1 = .ok ds S2) : mConsB m n S = .ok (d :: ds) S2 := by unfold mConsB; rw [h]; simp only [EO.bind, g]
theorem sl1000 {n : Nat} (h : n ≤ 1000) : n ≤ sizeLine := Nat.le_trans h (by decide)
theorem e_Tup {n : SS → EO (List Dt)} {ds : List Dt} (h : n S = .ok ds S1) (hl : ds.length ≤ sizeLine) : mTup n S = .ok (.tuple ds) S1 := by unfold mTup; rw [h]; simp only [EO.bind, fit, if_pos hl]
theorem e_Lst {n : SS → EO (List Dt)} {ds : List Dt} (h : n S = .ok ds S1) (hl : ds.length ≤ sizeLine) : mLst n S = .ok (.list ds) S1 := by unfold mLst; rw [h]; simp only [EO.bind, fit, if_pos hl]
theorem e_Bl {m : SS → EO Bool} {z : Bool} (h : m S = .ok z S1) : mBl m S = .ok (.bool z) S1 := by unfold mBl; rw [h]; rfl
theorem e_toB {m : SS → EO Dt} {z : Bool} (h : m S = .ok (.bool z) S1) : toB m S = .ok z S1 := by unfold toB; rw [h]; rfl
theorem e_Not {m : SS → EO Bool} {z : Bool} (h : m S = .ok z S1) : mNot m S = .ok (!z) S1 := by unfold mNot; rw [h]; rfl
theorem e_And {m n : SS → EO Bool} {z : Bool} {r : EO Bool} (h : m S = .ok z S1) (g : (if z = true then n S1 else .ok false S1) = r) : mAnd m n S = r := by unfold mAnd; rw [h]; exact g
theorem e_Or {m n : SS → EO Bool} {z : Bool} {r : EO Bool} (h : m S = .ok z S1) (g : (if z = true then .ok true S1 else n S1) = r) : mOr m n S = r := by unfold mOr; rw [h]; exact g
theorem e_If {α : Type} {c : SS → EO Bool} {m n : SS → EO α} {z : Bool} {r : EO α} (h : c S = .ok z S1) (g : (if z = true then m S1 else n S1) = r) : mIf c m n S = r := by unfold mIf; rw [h]; exact g
theorem e_vAnd {m n : SS → EO Dt} {z : Bool} {r : EO Dt} (h : m S = .ok (.bool z) S1) (g : (if z = true then n S1 else .ok (.bool false) S1) = r) : vAnd m n S = r := by
  unfold vAnd; rw [h]; cases z <;> exact g
theorem e_vOr {m n : SS → EO Dt} {z : Bool} {r : EO Dt} (h : m S = .ok (.bool z) S1) (g : (if z = true then .ok (.bool true) S1 else n S1) = r) : vOr m n S = r := by
  unfold vOr; rw [h]; cases z <;> exact g
theorem e_vNot {m : SS → EO Dt} {z : Bool} (h : m S = .ok (.bool z) S1) : vNot m S = .ok (.bool (!z)) S1 := by unfold vNot; rw [h]; rfl
theorem i_and {n : EO Bool} {z y : Bool} (h : z = true → n = .ok y S) : (if z = true then n else .ok false S) = .ok (z && y) S := by cases z with
  | false => rfl
  | true => rw [if_pos rfl, h rfl]; rfl
theorem i_or {n : EO Bool} {z y : Bool} (h : z = false → n = .ok y S) : (if z = true then .ok true S else n) = .ok (z || y) S := by cases z with
  | true => rfl
  | false => rw [if_neg (by decide), h rfl]; rfl
theorem i_vand {n : EO Dt} {z y : Bool} (h : z = true → n = .ok (.bool y) S) : (if z = true then n else .ok (.bool false) S) = .ok (.bool (z && y)) S := by cases z with
  | false => rfl
  | true => rw [if_pos rfl, h rfl]; rfl
theorem i_vor {n : EO Dt} {z y : Bool} (h : z = false → n = .ok (.bool y) S) : (if z = true then .ok (.bool true) S else n) = .ok (.bool (z || y)) S := by cases z with
  | true => rfl
  | false => rw [if_neg (by decide), h rfl]; rfl
theorem i_if {α : Type} {m n : EO α} {z : Bool} {x y : α} (h : z = true → m = .ok x S) (g : z = false → n = .ok y S) : (if z = true then m else n) = .ok (if z = true then x else y) S := by cases z with
  | true => rw [if_pos rfl, h rfl, if_pos rfl]
  | false => rw [if_neg (by decide), g rfl, if_neg (by decide)]
theorem i_T {α : Type} {m n r : α} {z : Bool} (hz : z = true) (h : m = r) : (if z = true then m else n) = r := by rw [if_pos hz, h]
theorem i_F {α : Type} {m n r : α} {z : Bool} (hz : z = false) (h : n = r) : (if z = true then m else n) = r := by rw [if_neg (by rw [hz]; decide), h]
theorem g_two {α : Type} {f : Dt → Dt → Option α} {o p : Opd} {d e : Dt} {z : Option α} (ho : o.get S = some d) (hp : p.get S = some e) (h : f d e = z) : two f o p S = z := by unfold two; rw [ho, hp]; exact h
theorem e_Cmp {f : Dt → Dt → Option Bool} {m n : SS → EO Opd} {o p : Opd} {z : Bool} (h : m S = .ok o S1) (g : n S1 = .ok p S2) (t : two f o p S2 = some z) : mCmp f m n S = .ok z S2 := by
  unfold mCmp; rw [h]; simp only [EO.bind, g, t, EO.lift]
theorem e_Bin {f : Dt → Dt → Option Dt} {m n : SS → EO Opd} {o p : Opd} {z : Dt} (h : m S = .ok o S1) (g : n S1 = .ok p S2) (t : two f o p S2 = some z) : mBin f m n S = .ok z S2 := by
  unfold mBin; rw [h]; simp only [EO.bind, g, t, EO.lift]
theorem e_Chain {f f' : Dt → Dt → Option Bool} {m n l : SS → EO Opd} {o p q : Opd} {z y : Bool} (h : m S = .ok o S1) (g : n S1 = .ok p S2) (t : two f o p S2 = some z) (k : l S2 = .ok q S2) (u : two f' p q S2 = some y) : mChain f f' m n l S = .ok (z && y) S2 := by
  unfold mChain; rw [h]; simp only [EO.bind, g, t, EO.lift, k, u]
  cases z <;> rfl
theorem e_Neg {m : SS → EO Dt} {i : Int} (h : m S = .ok (.int i) S1) : mNeg m S = .ok (.int (-i)) S1 := by unfold mNeg; rw [h]; rfl
theorem g_os0 : opsGet S [] = some [] := rfl
theorem g_os1 {o : Opd} {os : List Opd} {d : Dt} {ds : List Dt} (h : o.get S = some d) (g : opsGet S os = some ds) : opsGet S (o :: os) = some (d :: ds) := by rw [opsGet, h, g]
theorem e_Bu {f : List Dt → Option Dt} {m : SS → EO (List Opd)} {os : List Opd} {ds : List Dt} {d : Dt} (h : m S = .ok os S1) (g : opsGet S1 os = some ds) (t : f ds = some d) : mBu f m S = .ok d S1 := by
  unfold mBu; rw [h]; simp only [EO.bind, g, Option.bind, t, EO.lift]
theorem e_Ou {f : List Dt → Option (List Dt)} {m : SS → EO (List Opd)} {os : List Opd} {ds d : List Dt} (h : m S = .ok os S1) (g : opsGet S1 os = some ds) (t : f ds = some d) : mOu f m S = .ok (.list d) S1 := by
  unfold mOu; rw [h]; simp only [EO.bind, g, Option.bind, t, EO.lift, Option.map]
theorem e_Isi {T : String} {m : SS → EO Opd} {o : Opd} {d : Dt} {z : Bool} (h : m S = .ok o S1) (g : o.get S1 = some d) (t : fIsi T d = some z) : mIsi T m S = .ok (.bool z) S1 := by
  unfold mIsi; rw [h]; simp only [EO.bind, g, Option.bind, t, EO.lift, Option.map]
theorem e_IsO {c : Str} {m : SS → EO Opd} {o : Opd} {d : Dt} {z : Bool} (h : m S = .ok o S1) (g : o.get S1 = some d) (t : fIsO c d = some z) : mIsO c m S = .ok (.bool z) S1 := by
  unfold mIsO; rw [h]; simp only [EO.bind, g, Option.bind, t, EO.lift, Option.map]
theorem e_Fld {c f : Str} {m : SS → EO Opd} {o : Opd} {d z : Dt} (h : m S = .ok o S1) (g : o.get S1 = some d) (t : fFld c f d = some z) : mFld c f m S = .ok z S1 := by
  unfold mFld; rw [h]; simp only [EO.bind, g, Option.bind, t, EO.lift]
theorem e_Part0 : mPart0 S = .ok none S := rfl
theorem e_Part {m : SS → EO Dt} {i : Int} (h : m S = .ok (.int i) S1) : mPart m S = .ok (some i) S1 := by unfold mPart; rw [h]; rfl
theorem e_Sl {m : SS → EO Opd} {l k : SS → EO (Option Int)} {o : Opd} {lo hi : Option Int} {d z : Dt} (h : m S = .ok o S1) (hl : l S1 = .ok lo S2) (hk : k S2 = .ok hi S3) (g : o.get S3 = some d) (t : fSl d lo hi = some z) : mSl m l k S = .ok z S3 := by
  unfold mSl; rw [h]; simp only [EO.bind, hl, hk, g, Option.bind, t, EO.lift]
theorem e_Rev {m : SS → EO Opd} {o : Opd} {d z : Dt} (h : m S = .ok o S1) (g : o.get S1 = some d) (t : fRev d = some z) : mRev m S = .ok z S1 := by
  unfold mRev; rw [h]; simp only [EO.bind, g, Option.bind, t, EO.lift]
theorem e_Dict0 : mDict0 S = .ok (.dict []) S := rfl
theorem e_M1 {f : List Dt → Option Dt} {m n : SS → EO Opd} {z : Str} {p : Opd} {d r : Dt} (h : m S = .ok (.da (.str z)) S1) (k : n S1 = .ok p S2) (g : p.get S2 = some d) (t : f [.str z, d] = some r) : mM1 f m n S = .ok r S2 := by
  unfold mM1; rw [h]; simp only [EO.bind, k, g, Option.bind, t, EO.lift]
theorem e_M0 {f : List Dt → Option Dt} {m : SS → EO Opd} {z : Str} {r : Dt} (h : m S = .ok (.da (.str z)) S1) (t : f [.str z] = some r) : mM0 f m S = .ok r S1 := by
  unfold mM0; rw [h]; simp only [EO.bind, t, EO.lift]
theorem e_Mn {f : List Dt → Option Dt} {m : SS → EO Opd} {n : SS → EO (List Opd)} {z : Str} {ps : List Opd} {ds : List Dt} {r : Dt} (h : m S = .ok (.da (.str z)) S1) (k : n S1 = .ok ps S2) (g : opsGet S2 ps = some ds) (t : f (.str z :: ds) = some r) : mMn f m n S = .ok r S2 := by
  unfold mMn; rw [h]; simp only [EO.bind, k, g, Option.bind, t, EO.lift]
theorem e_Res {g : List Dt → Res Dt} {m : SS → EO (List Dt)} {ds : List Dt} {d : Dt} (h : m S = .ok ds S1) (t : g ds = .ok d) : mRes g m S = .ok d S1 := by unfold mRes; rw [h]; simp only [EO.bind, t]
theorem e_ResK {pm : List Dt → List Dt} {g : List Dt → Res Dt} {m : SS → EO (List Dt)} {ds : List Dt} {d : Dt} (h : m S = .ok ds S1) (t : g (pm ds) = .ok d) : mResK pm g m S = .ok d S1 := by unfold mResK mRes; rw [h]; simp only [EO.bind, t]
theorem e_Make {c : Str} {g : Dt → List Dt → RsS} {m : SS → EO (List Dt)} {ds : List Dt} {d : Dt} (h : m S = .ok ds S1) (t : g (ins c [] []) ds = .ok .none d) : mMake c g m S = .ok d S1 := by unfold mMake; rw [h]; simp only [EO.bind, t]
theorem e_Meth {c x : Str} {pm : Dt → List Dt → List Dt} {g : List Dt → Res Dt} {mo : SS → EO Dt} {m : SS → EO (List Dt)} {d r : Dt} {ds : List Dt} (h : mo S = .ok d S1) (k : m S1 = .ok ds S2) (hc : isCM c x d = true) (t : g (pm d ds) = .ok r) : mMeth c x pm g mo m S = .ok r S2 := by
  unfold mMeth; rw [h]; simp only [EO.bind, if_pos hc, k, t]
theorem e_EqI {c : Str} {g : List Dt → Res Dt} {m n : SS → EO Dt} {d e : Dt} {z : Bool} (h : m S = .ok d S1) (k : n S1 = .ok e S2) (hd : isC c d = true) (he : isC c e = true) (t : g [d, e] = .ok (.bool z)) : mEqI c g m n S = .ok (.bool z) S2 := by
  unfold mEqI; rw [h]; simp only [EO.bind, k, if_pos (And.intro hd he), t]
theorem e_NeI {c : Str} {g : List Dt → Res Dt} {m n : SS → EO Dt} {d e : Dt} {z : Bool} (h : m S = .ok d S1) (k : n S1 = .ok e S2) (hd : isC c d = true) (he : isC c e = true) (t : g [d, e] = .ok (.bool z)) : mNeI c g m n S = .ok (.bool (!z)) S2 := by
  unfold mNeI; rw [h]; simp only [EO.bind, k, if_pos (And.intro hd he), t]
theorem e_BinI {c : Str} {g : List Dt → Res Dt} {m n : SS → EO Dt} {d e r : Dt} (h : m S = .ok d S1) (k : n S1 = .ok e S2) (hd : isC c d = true) (he : isC c e = true) (t : g [d, e] = .ok r) (hr : isC c r = true) : mBinI c g m n S = .ok r S2 := by
  unfold mBinI; rw [h]; simp only [EO.bind, k, if_pos (And.intro hd he), t, if_pos hr]
theorem e_DNil : mDNil S = .ok [] S := rfl
theorem e_DCons {mk mv : SS → EO Dt} {n : SS → EO (List (Dt × Dt))} {k d : Dt} {ps : List (Dt × Dt)} (h : mk S = .ok k S1) (g : mv S1 = .ok d S2) (t : n S2 = .ok ps S3) : mDCons mk mv n S = .ok ((k, d) :: ps) S3 := by
  unfold mDCons; rw [h]; simp only [EO.bind, g, t]
theorem e_Disp {n : SS → EO (List (Dt × Dt))} {ps qs : List (Dt × Dt)} (h : n S = .ok ps S1) (hk : (ps.all fun p => key1 p.1) = true) (hl : ps.length ≤ 15) (hq : mergeD [] ps = qs) : mDisp n S = .ok (.dict qs) S1 := by
  unfold mDisp; rw [h]; simp only [EO.bind, if_pos (And.intro hk hl), hq]
theorem e_NNil : mNNil S = .ok [] S := rfl
theorem e_NCons {m : SS → EO NV} {n : SS → EO (List NV)} {d : NV} {ds : List NV} (h : m S = .ok d S1) (g : n S1 = .ok ds S2) : mNCons m n S = .ok (d :: ds) S2 := by unfold mNCons; rw [h]; simp only [EO.bind, g]
theorem e_Fz {m : SS → EO Dt} {d : Dt} (h : m S = .ok d S1) : mFz m S = .ok (.fz d) S1 := by unfold mFz; rw [h]; rfl
theorem e_Ow {m : SS → EO Dt} {d : Dt} (h : m S = .ok d S1) : mOw m S = .ok (.ow d) S1 := by unfold mOw; rw [h]; rfl
theorem e_Items {m : SS → EO Dt} {d : Dt} {ds : List Dt} (h : m S = .ok d S1) (t : itemsD d = some ds) : mItems m S = .ok ds S1 := by unfold mItems; rw [h]; simp only [EO.bind, t, EO.lift]
theorem rng_small {n : Nat} (hn : n ≤ 1000000) : small62 (n : Int) := by
  unfold small62
  constructor <;> omega
theorem e_Rng1 {m : SS → EO (List Dt)} {n : Nat} (h : m S = .ok [.int (n : Nat)] S1) (hn : n ≤ 1000000) : mRng1 m S = .ok ((List.range n).map fun i : Nat => (.int (i : Nat) : Dt)) S1 := by
  exact rng_of (rng_small hn) h
theorem e_Yes : mYes S = .ok true S := rfl
theorem e_Pop {i : Nat} {ds : List Dt} {d : Dt} (h : S[i]? = some (some (.o (.list ds)))) (hl : ds.getLast? = some d) (hs : S.set i (some (.o (.list ds.dropLast))) = S1) : mPop i S = .ok d S1 := by
  unfold mPop ownL; rw [h]; simp only [hl, hs]
theorem e_Lc {β : Type} {m : SS → EO (List Dt)} {vs : List Nat} {g : Dt → SS → Option SS} {mt : SS → EO Bool} {me : SS → EO Dt} {s0 : SS} {enc : β → Dt} {s1 : β → SS} {p : β → Bool} {f : β → Dt} {items : List β} (hi : m S = .ok (items.map enc) S1) (h0 : wipeS S1 vs = s0) (hg : ∀ b, g (enc b) s0 = some (s1 b)) (ht : ∀ b ∈ items, mt (s1 b) = .ok (p b) (s1 b)) (he : ∀ b ∈ items, p b = true → me (s1 b) = .ok (f b) (s1 b)) (hr : restS S1 s0 vs = S2) (hl : items.length ≤ sizeLine)
    (hw : ∀ b, wipeS (s1 b) vs = s0) : mLc m vs g mt me S = .ok (.list ((items.filter p).map f)) S2 :=
  mLc_enc enc s1 p f items hi h0 hr (fun b _ => hg b) ht he (fun b _ => hw b) hl
theorem e_LcY {β : Type} {m : SS → EO (List Dt)} {vs : List Nat} {g : Dt → SS → Option SS} {me : SS → EO Dt} {s0 : SS} {enc : β → Dt} {s1 : β → SS} {f : β → Dt} {items : List β} (hi : m S = .ok (items.map enc) S1) (h0 : wipeS S1 vs = s0) (hg : ∀ b, g (enc b) s0 = some (s1 b)) (he : ∀ b ∈ items, me (s1 b) = .ok (f b) (s1 b)) (hr : restS S1 s0 vs = S2) (hl : items.length ≤ sizeLine)
    (hw : ∀ b, wipeS (s1 b) vs = s0) : mLc m vs g mYes me S = .ok (.list (items.map f)) S2 := by
  have := mLc_enc (mt := mYes) enc s1 (fun _ => true) f items hi h0 hr (fun b _ => hg b) (fun b _ => rfl) (fun b hb _ => he b hb) (fun b _ => hw b) hl
  rw [this]
  rw [List.filter_eq_self.mpr fun _ _ => rfl]
theorem e_Seq {m n : SS → SO} {r : SO} (h : m S = .nx S1) (g : n S1 = r) : mSeq m n S = r := by rw [seq_nx h, g]
theorem e_Ret {m : SS → EO Dt} {d : Dt} (h : m S = .ok d S1) : mRet m S = .rt d S1 := by unfold mRet; rw [h]; rfl
theorem e_IfS {c : SS → EO Bool} {m n : SS → SO} {z : Bool} {r : SO} (h : c S = .ok z S1) (g : (if z = true then m S1 else n S1) = r) : mIfS c m n S = r := by rw [if_ok h, g]
theorem e_Drop {α : Type} {m : SS → EO α} {d : α} (h : m S = .ok d S1) : mDrop m S = .nx S1 := by unfold mDrop; rw [h]; rfl
theorem e_Set {i : Nat} {m : SS → EO NV} {n : NV} (h : m S = .ok n S1) (hi : i < S1.length) (hs : S1.set i (some n.sv) = S2) : mSet i m S = .nx S2 := by unfold mSet; rw [h]; simp only [EO.st, if_pos hi, hs]
theorem e_Par {i j : Nat} {m n : SS → EO NV} {d e : NV} (h : m S = .ok d S1) (g : n S1 = .ok e S2) (hi : i < S2.length) (hj : j < S2.length) (hs : (S2.set i (some d.sv)).set j (some e.sv) = S3) : mPar i j m n S = .nx S3 := by
  unfold mPar; rw [h]; simp only [EO.st, g, if_pos (And.intro hi hj), hs]
theorem e_ParT {is : List Nat} {m : SS → EO (List NV)} {ns : List NV} (h : m S = .ok ns S1) (hi : (is.all fun i => decide (i < S1.length)) = true) (hl : is.length = ns.length) (hs : setAll S1 is ns = S2) : mParT is m S = .nx S2 := by
  unfold mParT; rw [h]; simp only [EO.st, if_pos (And.intro hi hl), hs]
theorem e_Append {i : Nat} {m : SS → EO Dt} {ds0 ds : List Dt} {d : Dt} (h0 : S[i]? = some (some (.o (.list ds0)))) (h : m S = .ok d S1) (h1 : S1[i]? = some (some (.o (.list ds)))) (hl : ds.length < sizeLine) (hs : S1.set i (some (.o (.list (ds ++ [d])))) = S2) : mAppend i m S = .nx S2 := by
  unfold mAppend ownL; rw [h0]; simp only [h, EO.st, h1, if_pos hl, hs]
theorem e_Extend {i : Nat} {m : SS → EO Dt} {ds0 ds es : List Dt} (h0 : S[i]? = some (some (.o (.list ds0)))) (h : m S = .ok (.list es) S1) (h1 : S1[i]? = some (some (.o (.list ds)))) (hl : ds.length + es.length ≤ sizeLine) (hs : S1.set i (some (.o (.list (ds ++ es)))) = S2) : mExtend i m S = .nx S2 := by
  unfold mExtend ownL; rw [h0]; simp only [h, EO.st, h1, if_pos hl, hs]
theorem e_Put {i : Nat} {mk mv : SS → EO Dt} {ds0 ds es : List (Dt × Dt)} {k d : Dt} {z : Option Dt} (hv : mv S = .ok d S1) (h0 : S1[i]? = some (some (.o (.dict ds0)))) (hk : mk S1 = .ok k S2) (h1 : S2[i]? = some (some (.o (.dict ds)))) (hf : fLook ds k = some z) (hl : ds.length < sizeLine) (hp : putD ds k d = es) (hs : S2.set i (some (.o (.dict es))) = S3) : mPut i mk mv S = .nx S3 := by
  unfold mPut ownK; rw [hv]; simp only [EO.st, h0, hk, h1, hf, if_pos hl, hp, hs]
theorem e_Asg {g : Dt → SS → Option SS} {m : SS → EO Dt} {d : Dt} (h : m S = .ok d S1) (t : g d S1 = some S2) : mAsg g m S = .nx S2 := by unfold mAsg; rw [h]; simp only [EO.st, t]
theorem e_Nm {i : Nat} {d : Dt} (hi : i < S.length) (hs : S.set i (some (.v d)) = S1) : gNm i d S = some S1 := by unfold gNm; rw [if_pos hi, hs]
theorem e_NilV : gNilV [] S = some S := rfl
theorem e_ConsV {g : Dt → SS → Option SS} {h : List Dt → SS → Option SS} {d : Dt} {ds : List Dt} (h1 : g d S = some S1) (h2 : h ds S1 = some S2) : gConsV g h (d :: ds) S = some S2 := by unfold gConsV; simp only [h1, h2]
theorem e_TupV {n : Nat} {h : List Dt → SS → Option SS} {d : Dt} {ds : List Dt} (hd : d = .tuple ds) (hl : ds.length = n) (h2 : h ds S = some S1) : gTupV n h d S = some S1 := by subst hd; unfold gTupV; simp only [if_pos hl, h2]
theorem e_SetF {i : Nat} {c f : Str} {m : SS → EO Dt} {a : Addr} {d z d2 : Dt} (h : m S = .ok z S1) (h1 : S1[i]? = some (some (.se a d))) (hf : fPut c f z d = some d2) (hs : S1.set i (some (.se a d2)) = S2) : mSetF i c f m S = .nx S2 := by
  unfold mSetF; rw [h]; simp only [EO.st, h1, hf, hs]
theorem o_F {o : SO} {d : Dt} (h : o = .rt d S) : outF o = .ok d := by rw [h]; rfl
theorem o_Fe {o : SO} {d d' : Dt} (h : o = .rt d S) (e : d = d') : outF o = .ok d' := by rw [h, ← e]; rfl
theorem o_X {o : SO} {d : Dt} {D : Dk} {a : Addr} {r : SS} (h : o = .rt d (some (.dk a D.1 D.2.1 D.2.2) :: r)) : outX o = .ok (d, D) := by rw [h]; rfl
theorem e_Draw0 {G : Dk → List Dt → Res (Dt × Dk)} {m : SS → EO (List Dt)} {a : Addr} {D D' : Dk} {r r' : List (Option SV)} {ds : List Dt} {d : Dt} (hm : m (some (.dk a D.1 D.2.1 D.2.2) :: r) = .ok ds (some (.dk a D.1 D.2.1 D.2.2) :: r')) (h : G D ds = .ok (d, D')) : mDraw 0 G m (some (.dk a D.1 D.2.1 D.2.2) :: r) = .ok d (some (.dk a D'.1 D'.2.1 D'.2.2) :: r') := by
  obtain ⟨q, b, c⟩ := D
  obtain ⟨q', b', c'⟩ := D'
  simp [mDraw, hm, EO.bind, h]
end
section
theorem q_addN (a b : Nat) : gAdd (.int (a : Nat)) (.int (b : Nat)) = some (.int ((a + b : Nat) : Int)) := by
  show some (PyData.int ((a : Int) + (b : Int))) = _
  rw [Int.natCast_add]
theorem q_addN1 (a : Nat) : gAdd (.int (a : Nat)) (.int 1) = some (.int ((a + 1 : Nat) : Int)) := rfl
theorem q_add1N (a : Nat) : gAdd (.int 1) (.int (a : Nat)) = some (.int ((1 + a : Nat) : Int)) := q_addN 1 a
theorem q_addI (a b : Int) : gAdd (.int a) (.int b) = some (.int (a + b)) := rfl
theorem q_addS {a b : Str} (h : a.length + b.length ≤ sizeLine) : gAdd (.str a) (.str b) = some (.str (a ++ b)) := by
  have e : gAddS (.str a) (.str b) = some (.str (a ++ b)) := if_pos h
  have g : gAdd (.str a) (.str b) = alt gAddS (alt gAddT gAddL) (.str a) (.str b) := rfl
  rw [g]
  unfold alt
  rw [e]
theorem q_addT {a b : List Dt} (h : a.length + b.length ≤ sizeLine) : gAdd (.tuple a) (.tuple b) = some (.tuple (a ++ b)) := by
  have e : gAddT (.tuple a) (.tuple b) = some (.tuple (a ++ b)) := if_pos h
  have g : gAdd (.tuple a) (.tuple b) = alt gAddT gAddL (.tuple a) (.tuple b) := rfl
  rw [g]
  unfold alt
  rw [e]
theorem q_addL0 {a b : List Dt} (h : a.length + b.length ≤ sizeLine) : gAddL (.list a) (.list b) = some (.list (a ++ b)) := if_pos h
theorem q_addL {a b : List Dt} (h : a.length + b.length ≤ sizeLine) : gAdd (.list a) (.list b) = some (.list (a ++ b)) := by
  have g : gAdd (.list a) (.list b) = gAddL (.list a) (.list b) := rfl
  rw [g]
  exact q_addL0 h
theorem q_lenS {z : Str} (h : z.length ≤ sizeLine) : fLen [.str z] = some (.int (z.length : Nat)) := if_pos h
theorem q_lenL {ds : List Dt} : fLen [.list ds] = some (.int (ds.length : Nat)) := rfl
theorem q_lenT {ds : List Dt} : fLen [.tuple ds] = some (.int (ds.length : Nat)) := rfl
theorem q_itL {ds : List Dt} : itemsD (.list ds) = some ds := rfl
theorem q_itT {ds : List Dt} : itemsD (.tuple ds) = some ds := rfl
theorem q_itN {l : List Nat} : itemsD (natsD l) = some (l.map fun s : Nat => (.int (s : Nat) : Dt)) := rfl
theorem q_tupL {ds : List Dt} : fTup [.list ds] = some (.tuple ds) := rfl
theorem q_tupT {ds : List Dt} : fTup [.tuple ds] = some (.tuple ds) := rfl
theorem q_lisL {ds : List Dt} : fList [.list ds] = some ds := rfl
theorem q_lisT {ds : List Dt} : fList [.tuple ds] = some ds := rfl
theorem bools_map {α : Type} (f : α → Bool) : ∀ l : List α, boolsD (l.map fun x => (.bool (f x) : Dt)) = some (l.map f)
  | [] => rfl
  | x :: l => by rw [List.map_cons, boolsD, bools_map f l]; rfl
theorem q_all {α : Type} {f : α → Bool} {l : List α} : fAll [.list (l.map fun x => (.bool (f x) : Dt))] = some (.bool (l.all f)) := by
  rw [fAll, bools_map]
  simp [List.all_map]
theorem q_any {α : Type} {f : α → Bool} {l : List α} : fAny [.list (l.map fun x => (.bool (f x) : Dt))] = some (.bool (l.any f)) := by
  rw [fAny, bools_map]
  simp [List.any_map]
theorem texts_map {α : Type} (f : α → Str) : ∀ l : List α, textsD (l.map fun x => (.str (f x) : Dt)) = some (l.map f)
  | [] => rfl
  | x :: l => by rw [List.map_cons, textsD, texts_map f l]; rfl
theorem q_neN (a b : Nat) : fNeA (.int (a : Nat)) (.int (b : Nat)) = some (!decide (a = b)) := by
  rw [neA_int]
  congr 2
  rw [decide_eq_decide]
  omega
theorem q_ltN (a b : Nat) : fLt (.int (a : Nat)) (.int (b : Nat)) = some (decide (a < b)) := by
  show some (decide ((a : Int) < (b : Int))) = _
  congr 1
  rw [decide_eq_decide]
  omega
theorem q_leN (a b : Nat) : fLe (.int (a : Nat)) (.int (b : Nat)) = some (decide (a ≤ b)) := by
  show some (decide ((a : Int) ≤ (b : Int))) = _
  congr 1
  rw [decide_eq_decide]
  omega
theorem q_le0N (b : Nat) : fLe (.int 0) (.int (b : Nat)) = some true := by
  show some (decide ((0 : Int) ≤ (b : Int))) = _
  rw [decide_eq_true (by omega)]
theorem q_neS (x y : Str) : fNeA (.str x) (.str y) = some (!decide (x = y)) := rfl
theorem q_neB (a b : Bool) : fNeA (.bool a) (.bool b) = some (!decide (a = b)) := by cases a <;> cases b <;> rfl
theorem q_eqB (a b : Bool) : fEqA (.bool a) (.bool b) = some (decide (a = b)) := by cases a <;> cases b <;> rfl
end
end VL

namespace VL
open PySem PySem.Spec L2
open PyProof.Rows hiding St
variable [WW]
/-- some way from s to t spells x and y -/
inductive Sp (mv : List Mv) (s : Nat) : List Nat → List Nat → Nat → Prop
  | nil : Sp mv s [] [] s
  | snoc {x y : List Nat} {m : Mv} : Sp mv s x y m.p → m ∈ mv → Sp mv s (x ++ m.u.cps.toList) (y ++ m.v.cps.toList) m.q
theorem Sp.way {b : List Nat} {mv : List Mv} {s t : Nat} {x y : List Nat} (hs : s ∈ b) (h : Sp mv s x y t) : Way b mv t x y := by
  induction h with
  | nil => exact .base hs
  | snoc _ hm ih => exact .step ih hm rfl
theorem take_fits {x : Str} {u : Str} {i : Nat} (h : fits x u i = true) : x.cps.toList.take (i + u.length) = x.cps.toList.take i ++ u.cps.toList := by
  have e := of_decide_eq_true h
  rw [List.take_add, e]
theorem reach_sp {b : List Nat} {mv : List Mv} {x y : Str} {p : Pl} (h : Reach (begB b) (nxs mv x y) p) : ∃ s ∈ b, Sp mv s (x.cps.toList.take p.2.1) (y.cps.toList.take p.2.2) p.1 := by
  induction h with
  | base h =>
    obtain ⟨s, hs, rfl⟩ := List.mem_map.mp h
    exact ⟨s, hs, .nil⟩
  | @step p q _ hq ih =>
    obtain ⟨s, hs, h⟩ := ih
    obtain ⟨m, hm, hn⟩ := List.mem_filterMap.mp hq
    obtain ⟨h1, h2, h3, rfl⟩ := nx1_some hn
    refine ⟨s, hs, ?_⟩
    show Sp mv s (x.cps.toList.take (p.2.1 + m.u.length)) (y.cps.toList.take (p.2.2 + m.v.length)) m.q
    rw [take_fits h2, take_fits h3]
    exact .snoc (by rw [h1]; exact h) hm
theorem txt_cps (x : Str) : txt x.cps.toList = x := by
  cases x; rfl
theorem tells_sp {b e : List Nat} {mv : List Mv} {x y : Str} : Tells b mv e x y ↔ ∃ s ∈ b, ∃ t ∈ e, Sp mv s x.cps.toList y.cps.toList t := by
  constructor
  · rintro ⟨t, ht, h⟩
    obtain ⟨s, hs, k⟩ := reach_sp h
    refine ⟨s, hs, t, ht, ?_⟩
    have e1 : x.cps.toList.take x.length = x.cps.toList := by rw [← len_cps, List.take_length]
    have e2 : y.cps.toList.take y.length = y.cps.toList := by rw [← len_cps, List.take_length]
    simp only [e1, e2] at k
    exact k
  · rintro ⟨s, hs, t, ht, h⟩
    have := (h.way hs).tells ht
    rw [txt_cps, txt_cps] at this
    exact this
theorem Sp.mono {mv mv' : List Mv} (h : ∀ m ∈ mv, m ∈ mv') {s t : Nat} {x y : List Nat} (k : Sp mv s x y t) : Sp mv' s x y t := by
  induction k with
  | nil => exact .nil
  | snoc _ hm ih => exact .snoc ih (h _ hm)
theorem Sp.app {mv : List Mv} {s t r : Nat} {x y x' y' : List Nat} (h : Sp mv s x y t) (k : Sp mv t x' y' r) : Sp mv s (x ++ x') (y ++ y') r := by
  induction k with
  | nil => rw [List.append_nil, List.append_nil]; exact h
  | snoc _ hm ih =>
    rw [← List.append_assoc, ← List.append_assoc]
    exact .snoc ih hm
theorem Sp.one {mv : List Mv} {m : Mv} (hm : m ∈ mv) : Sp mv m.p m.u.cps.toList m.v.cps.toList m.q := by
  have : Sp mv m.p ([] ++ m.u.cps.toList) ([] ++ m.v.cps.toList) m.q := .snoc .nil hm
  simpa using this
def mvS (k : Nat) (m : Mv) : Mv := ⟨m.p + k, m.u, m.v, m.q + k⟩
def shN (k : Nat) (l : List Nat) : List Nat := l.map (· + k)
theorem Sp.shift {mv : List Mv} {k s t : Nat} {x y : List Nat} (h : Sp mv s x y t) : Sp (mv.map (mvS k)) (s + k) x y (t + k) := by
  induction h with
  | nil => exact .nil
  | @snoc x y m _ hm ih => exact .snoc (m := mvS k m) ih (List.mem_map.mpr ⟨m, hm, rfl⟩)
/-- what a pacer of two parts does -/
theorem Sp.split {mv1 mv2 : List Mv} {n s t : Nat} {x y : List Nat} (h1 : ∀ m ∈ mv1, m.p < n ∧ m.q < n) (h : Sp (mv1 ++ mv2.map (mvS n)) s x y t) : (s < n → t < n ∧ Sp mv1 s x y t) ∧ (∀ r, s = r + n → ∃ q, t = q + n ∧ Sp mv2 r x y q) := by
  induction h with
  | nil => exact ⟨fun h => ⟨h, .nil⟩, fun r hr => ⟨r, hr, .nil⟩⟩
  | @snoc x y m _ hm ih =>
    refine ⟨fun hs => ?_, fun r hr => ?_⟩
    · obtain ⟨hp, k⟩ := ih.1 hs
      rcases List.mem_append.mp hm with hm | hm
      · exact ⟨(h1 m hm).2, .snoc k hm⟩
      · obtain ⟨m', _, rfl⟩ := List.mem_map.mp hm
        have : (mvS n m').p = m'.p + n := rfl
        omega
    · obtain ⟨q, hq, k⟩ := ih.2 r hr
      rcases List.mem_append.mp hm with hm | hm
      · have := (h1 m hm).1
        omega
      · obtain ⟨m', hm', rfl⟩ := List.mem_map.mp hm
        have : (mvS n m').p = m'.p + n := rfl
        have e : m'.p = q := by omega
        subst e
        exact ⟨m'.q, rfl, .snoc (m := m') k hm'⟩
theorem tells_either {n : Nat} {b1 e1 b2 e2 : List Nat} {mv1 mv2 : List Mv} {x y : Str} (hb : ∀ s ∈ b1, s < n) (he : ∀ s ∈ e1, s < n) (h1 : ∀ m ∈ mv1, m.p < n ∧ m.q < n) :
    Tells (b1 ++ shN n b2) (mv1 ++ mv2.map (mvS n)) (e1 ++ shN n e2) x y ↔ Tells b1 mv1 e1 x y ∨ Tells b2 mv2 e2 x y := by
  rw [tells_sp, tells_sp, tells_sp]
  constructor
  · rintro ⟨s, hs, t, ht, h⟩
    have k := h.split h1
    rcases List.mem_append.mp hs with hs | hs
    · obtain ⟨hlt, k⟩ := k.1 (hb s hs)
      rcases List.mem_append.mp ht with ht | ht
      · exact .inl ⟨s, hs, t, ht, k⟩
      · obtain ⟨r, _, rfl⟩ := List.mem_map.mp ht
        omega
    · obtain ⟨r, hr, rfl⟩ := List.mem_map.mp hs
      obtain ⟨q, rfl, k'⟩ := k.2 r rfl
      rcases List.mem_append.mp ht with ht | ht
      · have := he _ ht
        omega
      · obtain ⟨q', hq, e⟩ := List.mem_map.mp ht
        have : q' = q := by omega
        subst this
        exact .inr ⟨r, hr, q', hq, k'⟩
  · rintro (⟨s, hs, t, ht, h⟩ | ⟨s, hs, t, ht, h⟩)
    · exact ⟨s, List.mem_append_left _ hs, t, List.mem_append_left _ ht, h.mono fun m hm => List.mem_append_left _ hm⟩
    · exact ⟨s + n, List.mem_append_right _ (List.mem_map.mpr ⟨s, hs, rfl⟩), t + n, List.mem_append_right _ (List.mem_map.mpr ⟨t, ht, rfl⟩), h.shift.mono fun m hm => List.mem_append_right _ hm⟩
def btw (e1 : List Nat) (b2 : List Nat) : List Mv := e1.flatMap fun e => b2.map fun b => ⟨e, "", "", b⟩
theorem btw_mem {e1 b2 : List Nat} {m : Mv} : m ∈ btw e1 b2 ↔ ∃ e ∈ e1, ∃ b ∈ b2, m = ⟨e, "", "", b⟩ := by
  unfold btw
  rw [List.mem_flatMap]
  constructor
  · rintro ⟨e, he, h⟩
    obtain ⟨b, hb, rfl⟩ := List.mem_map.mp h
    exact ⟨e, he, b, hb, rfl⟩
  · rintro ⟨e, he, b, hb, rfl⟩
    exact ⟨e, he, List.mem_map.mpr ⟨b, hb, rfl⟩⟩
theorem Sp.splitB {mv1 mv2 : List Mv} {n s t : Nat} {e1 b2 : List Nat} {x y : List Nat} (h1 : ∀ m ∈ mv1, m.p < n ∧ m.q < n) (he : ∀ s ∈ e1, s < n) (hs : s < n) (h : Sp (mv1 ++ mv2.map (mvS n) ++ btw e1 (shN n b2)) s x y t) :
    (t < n ∧ Sp mv1 s x y t) ∨ (∃ q e b x1 y1 x2 y2, t = q + n ∧ e ∈ e1 ∧ b ∈ b2 ∧ x = x1 ++ x2 ∧ y = y1 ++ y2 ∧ Sp mv1 s x1 y1 e ∧ Sp mv2 b x2 y2 q) := by
  induction h with
  | nil => exact .inl ⟨hs, .nil⟩
  | @snoc x y m _ hm ih =>
    rcases List.mem_append.mp hm with hm | hm
    · rcases List.mem_append.mp hm with hm | hm
      · rcases ih with ⟨_, k⟩ | ⟨q, e, b, x1, y1, x2, y2, hq, _⟩
        · exact .inl ⟨(h1 m hm).2, .snoc k hm⟩
        · have := (h1 m hm).1
          omega
      · obtain ⟨m', hm', rfl⟩ := List.mem_map.mp hm
        have hp : (mvS n m').p = m'.p + n := rfl
        rcases ih with ⟨hlt, k⟩ | ⟨q, e, b, x1, y1, x2, y2, hq, hee, hbb, rfl, rfl, k1, k2⟩
        · omega
        · have e' : m'.p = q := by omega
          subst e'
          exact .inr ⟨m'.q, e, b, x1, y1, x2 ++ m'.u.cps.toList, y2 ++ m'.v.cps.toList, rfl, hee, hbb, List.append_assoc .., List.append_assoc .., k1, .snoc k2 hm'⟩
    · obtain ⟨e, hee, b', hb', rfl⟩ := btw_mem.mp hm
      obtain ⟨b, hb, rfl⟩ := List.mem_map.mp hb'
      rcases ih with ⟨_, k⟩ | ⟨q, _, _, _, _, _, _, hq, _⟩
      · refine .inr ⟨b, e, b, x, y, [], [], rfl, hee, hb, ?_, ?_, k, .nil⟩ <;> rfl
      · have := he e hee
        have hq : e = q + n := hq
        omega
theorem tells_behind {n : Nat} {b1 e1 b2 e2 : List Nat} {mv1 mv2 : List Mv} {x y : Str} (hb : ∀ s ∈ b1, s < n) (he : ∀ s ∈ e1, s < n) (h1 : ∀ m ∈ mv1, m.p < n ∧ m.q < n) :
    Tells b1 (mv1 ++ mv2.map (mvS n) ++ btw e1 (shN n b2)) (shN n e2) x y ↔ ∃ x1 x2 y1 y2 : List Nat, x.cps.toList = x1 ++ x2 ∧ y.cps.toList = y1 ++ y2 ∧ Tells b1 mv1 e1 (txt x1) (txt y1) ∧ Tells b2 mv2 e2 (txt x2) (txt y2) := by
  have tl : ∀ z : List Nat, (txt z).cps.toList = z := fun z => by simp [txt]
  constructor
  · intro h
    obtain ⟨s, hs, t, ht, h⟩ := tells_sp.mp h
    obtain ⟨t', ht', rfl⟩ := List.mem_map.mp ht
    rcases h.splitB h1 he (hb s hs) with ⟨hlt, _⟩ | ⟨q, e, b, x1, y1, x2, y2, hq, hee, hbb, ex, ey, k1, k2⟩
    · omega
    · have : t' = q := by omega
      subst this
      refine ⟨x1, x2, y1, y2, ex, ey, tells_sp.mpr ⟨s, hs, e, hee, ?_⟩, tells_sp.mpr ⟨b, hbb, t', ht', ?_⟩⟩
      · rw [tl, tl]; exact k1
      · rw [tl, tl]; exact k2
  · rintro ⟨x1, x2, y1, y2, ex, ey, h, k⟩
    obtain ⟨s, hs, e, hee, h⟩ := tells_sp.mp h
    obtain ⟨b, hbb, t, ht, k⟩ := tells_sp.mp k
    rw [tl, tl] at h k
    refine tells_sp.mpr ⟨s, hs, t + n, List.mem_map.mpr ⟨t, ht, rfl⟩, ?_⟩
    rw [ex, ey]
    have g1 : Sp (mv1 ++ mv2.map (mvS n) ++ btw e1 (shN n b2)) s x1 y1 e := h.mono fun m hm => List.mem_append_left _ (List.mem_append_left _ hm)
    have g2 : Sp (mv1 ++ mv2.map (mvS n) ++ btw e1 (shN n b2)) (b + n) x2 y2 (t + n) := k.shift.mono fun m hm => List.mem_append_left _ (List.mem_append_right _ hm)
    have g3 : Sp (mv1 ++ mv2.map (mvS n) ++ btw e1 (shN n b2)) e [] [] (b + n) := Sp.one (m := ⟨e, "", "", b + n⟩) (List.mem_append_right _ (btw_mem.mpr ⟨e, hee, b + n, List.mem_map.mpr ⟨b, hbb, rfl⟩, rfl⟩))
    have := (g1.app g3).app g2
    simpa using this
def mvT (m : Mv) : Mv := ⟨m.p, m.v, m.u, m.q⟩
theorem Sp.turn {mv : List Mv} {s t : Nat} {x y : List Nat} (h : Sp mv s x y t) : Sp (mv.map mvT) s y x t := by
  induction h with
  | nil => exact .nil
  | @snoc x y m _ hm ih => exact .snoc (m := mvT m) ih (List.mem_map.mpr ⟨m, hm, rfl⟩)
theorem mvT_T (mv : List Mv) : (mv.map mvT).map mvT = mv := by
  rw [List.map_map]
  exact List.map_id mv
theorem tells_turn {b e : List Nat} {mv : List Mv} {x y : Str} : Tells b (mv.map mvT) e y x ↔ Tells b mv e x y := by
  rw [tells_sp, tells_sp]
  constructor
  · rintro ⟨s, hs, t, ht, h⟩
    have := h.turn
    rw [mvT_T] at this
    exact ⟨s, hs, t, ht, this⟩
  · rintro ⟨s, hs, t, ht, h⟩
    exact ⟨s, hs, t, ht, h.turn⟩
def rvS (z : Str) : Str := txt z.cps.toList.reverse
theorem rvS_cps (z : Str) : (rvS z).cps.toList = z.cps.toList.reverse := by simp [rvS, txt]
theorem rvS_rvS (z : Str) : rvS (rvS z) = z := by
  unfold rvS
  rw [show (txt z.cps.toList.reverse).cps.toList = z.cps.toList.reverse by simp [txt], List.reverse_reverse, txt_cps]
def mvB (m : Mv) : Mv := ⟨m.q, rvS m.u, rvS m.v, m.p⟩
theorem mvB_B (mv : List Mv) : (mv.map mvB).map mvB = mv := by
  rw [List.map_map]
  conv => rhs; rw [← List.map_id mv]
  refine List.map_congr_left fun m _ => ?_
  show (⟨m.p, rvS (rvS m.u), rvS (rvS m.v), m.q⟩ : Mv) = m
  rw [rvS_rvS, rvS_rvS]
theorem Sp.back {mv : List Mv} {s t : Nat} {x y : List Nat} (h : Sp mv s x y t) : Sp (mv.map mvB) t x.reverse y.reverse s := by
  induction h with
  | nil => exact .nil
  | @snoc x y m _ hm ih =>
    rw [List.reverse_append, List.reverse_append]
    have := Sp.one (m := mvB m) (List.mem_map.mpr ⟨m, hm, rfl⟩)
    have e1 : (mvB m).u.cps.toList = m.u.cps.toList.reverse := rvS_cps m.u
    have e2 : (mvB m).v.cps.toList = m.v.cps.toList.reverse := rvS_cps m.v
    rw [e1, e2] at this
    exact this.app ih
theorem tells_back {b e : List Nat} {mv : List Mv} {x y : Str} : Tells e (mv.map mvB) b (rvS x) (rvS y) ↔ Tells b mv e x y := by
  rw [tells_sp, tells_sp]
  constructor
  · rintro ⟨s, hs, t, ht, h⟩
    have := h.back
    rw [mvB_B, rvS_cps, rvS_cps, List.reverse_reverse, List.reverse_reverse] at this
    exact ⟨t, ht, s, hs, this⟩
  · rintro ⟨s, hs, t, ht, h⟩
    refine ⟨t, ht, s, hs, ?_⟩
    rw [rvS_cps, rvS_cps]
    exact h.back
end VL

namespace VL
open PySem PySem.Spec L2
open PyProof.Rows hiding St
variable [WW]
mutual
/-- no less than the length of what is shown -/
def rw1 : Dt → Nat
  | .str z => 10 * z.length + 2
  | .none => 10
  | .bool _ => 10
  | .int _ => 12
  | .list ds => rwA ds + 4
  | .tuple ds => rwA ds + 4
  | .dict _ => 2
def rwA : List Dt → Nat
  | [] => 0
  | d :: ds => rw1 d + 2 + rwA ds
end
mutual
def rfD : Dt → Bool
  | .str z => z.cps.toList.all fun c => decide (c < 128)
  | .none => true
  | .bool _ => true
  | .int i => decide (i.natAbs < 10 ^ 9)
  | .list ds => rfA ds
  | .tuple ds => rfA ds
  | .dict kvs => kvs.isEmpty
def rfA : List Dt → Bool
  | [] => true
  | d :: ds => rfD d && rfA ds
end
theorem fnA_allR : ∀ ds : List Dt, rfA ds = ds.all rfD
  | [] => rfl
  | d :: ds => by rw [rfA, List.all_cons, fnA_allR ds]
theorem wtA_appR : ∀ xs ys : List Dt, rwA (xs ++ ys) = rwA xs + rwA ys
  | [], ys => by simp [rwA]
  | d :: xs, ys => by
    rw [List.cons_append, rwA, rwA, wtA_appR xs ys]
    omega
theorem join_piled (ts : List Str) : (Str.join ", " ts).length ≤ piled ts := by
  by_cases h : ts = []
  · subst h; exact Nat.zero_le _
  · have := join_length_add ts h; omega
theorem len_list (ts : List Str) : (listText ts).length ≤ piled ts + 2 := by
  cases ts with
  | nil => decide
  | cons t ts =>
    have h := textFrom_length_pos ts 1 (("[" : Str) ++ (if (0 : Nat) > 0 then ", " else "" : String) ++ t) (by omega)
    have e : (listText (t :: ts)).length = (textFrom 1 (("[" : Str) ++ (if (0 : Nat) > 0 then ", " else "" : String) ++ t) ts).length + 1 := by
      show (textFrom 0 "[" (t :: ts) ++ "]").length = _
      rw [strLen_append]
      rfl
    rw [e, h, strLen_append]
    have : (("[" : Str) ++ (if (0 : Nat) > 0 then ", " else "" : String)).length = 1 := rfl
    rw [this]
    simp [piled]
    omega
theorem len_tuple (ts : List Str) : (tupleText ts).length ≤ piled ts + 4 := by
  have := join_piled ts
  unfold tupleText
  rw [strLen_append, strLen_append]
  have e : ("(" : Str).length = 1 := rfl
  rw [e]
  split
  · have : (Str.ofString ",)").length = 2 := rfl
    omega
  · have : (Str.ofString ")").length = 1 := rfl
    omega
mutual
theorem shown_wtR : ∀ d : Dt, rfD d = true → d.shown.length ≤ rw1 d
  | .str z, h => by
    simp only [rfD, List.all_eq_true, decide_eq_true_eq] at h
    have := StrLaws.reprText_len z (fun c hc => Nat.lt_trans (h c hc) (by decide))
    simpa [PyData.shown, rw1] using this
  | .none, _ => by simp only [PyData.shown, rw1]; decide
  | .bool true, _ => by simp only [PyData.shown, rw1]; decide
  | .bool false, _ => by simp only [PyData.shown, rw1]; decide
  | .int i, h => by
    have h : i.natAbs < 10 ^ 9 := by simpa [rfD] using h
    simp only [PyData.shown, rw1]
    have := int_text_length_le10 (k := 9) (by decide) h
    have e := PySem.ofString_length (toString i)
    omega
  | .list ds, h => by
    have h := shown_wtAR ds (by simpa [rfD] using h)
    have := len_list (PyData.shownAll ds)
    simp only [PyData.shown, rw1]
    omega
  | .tuple ds, h => by
    have h := shown_wtAR ds (by simpa [rfD] using h)
    have := len_tuple (PyData.shownAll ds)
    simp only [PyData.shown, rw1]
    omega
  | .dict [], _ => by simp only [PyData.shown, PyData.shownKv, rw1]; decide
  | .dict (_ :: _), h => by simp [rfD] at h
theorem shown_wtAR : ∀ ds : List Dt, rfA ds = true → piled (PyData.shownAll ds) ≤ rwA ds
  | [], _ => by simp only [PyData.shownAll, rwA]; decide
  | d :: ds, h => by
    have h : rfD d = true ∧ rfA ds = true := by simpa [rfA] using h
    have h1 := shown_wtR d h.1
    have h2 := shown_wtAR ds h.2
    simp only [PyData.shownAll, rwA, piled]
    simp only [piled] at h2
    simp
    omega
end
mutual
theorem showable_fnR : ∀ d : Dt, rfD d = true → d.showable = true
  | .str z, h => by simp only [PyData.showable]
  | .none, _ => by simp only [PyData.showable]
  | .bool _, _ => by simp only [PyData.showable]
  | .int i, h => by
    have h : i.natAbs < 10 ^ 9 := by simpa [rfD] using h
    simp only [PyData.showable]
    refine decide_eq_true ?_
    have := Nat.log2_self_le (n := i.natAbs)
    by_cases h0 : i.natAbs = 0
    · rw [h0]; decide
    · exact (Nat.log2_lt h0).mpr (Nat.lt_trans h (by decide +kernel))
  | .list ds, h => by simp only [PyData.showable]; exact showable_fnAR ds (by simpa [rfD] using h)
  | .tuple ds, h => by simp only [PyData.showable]; exact showable_fnAR ds (by simpa [rfD] using h)
  | .dict [], _ => by simp only [PyData.showable, PyData.showableKv]
  | .dict (_ :: _), h => by simp [rfD] at h
theorem showable_fnAR : ∀ ds : List Dt, rfA ds = true → PyData.showableAll ds = true
  | [], _ => by simp only [PyData.showableAll]
  | d :: ds, h => by
    have h : rfD d = true ∧ rfA ds = true := by simpa [rfA] using h
    simp only [PyData.showableAll, showable_fnR d h.1, showable_fnAR ds h.2, Bool.and_self]
end
mutual
theorem plain_fnR : ∀ d : Dt, rfD d = true → plainD d = true
  | .str z, h => by simp only [plainD]
  | .none, _ => by simp only [plainD]
  | .bool _, _ => by simp only [plainD]
  | .int i, h => by simp only [plainD]
  | .list ds, h => by simp only [plainD]; exact plain_fnAR ds (by simpa [rfD] using h)
  | .tuple ds, h => by simp only [plainD]; exact plain_fnAR ds (by simpa [rfD] using h)
  | .dict [], _ => by simp only [plainD, plainK, isK, Bool.and_self]
  | .dict (_ :: _), h => by simp [rfD] at h
theorem plain_fnAR : ∀ ds : List Dt, rfA ds = true → plainA ds = true
  | [], _ => by simp only [plainA]
  | d :: ds, h => by
    have h : rfD d = true ∧ rfA ds = true := by simpa [rfA] using h
    simp only [plainA, plain_fnR d h.1, plain_fnAR ds h.2, Bool.and_self]
end
theorem repr_fnR {d : Dt} (h : rfD d = true) (hd : d.depth ≤ 100) (hw : rw1 d ≤ 1000000) : fRepr [d] = some (.str d.shown) := by
  have c : canRepr d = true := by
    unfold canRepr
    simp only [Bool.and_eq_true, decide_eq_true_eq]
    exact ⟨⟨⟨plain_fnR d h, showable_fnR d h⟩, hd⟩, Nat.le_trans (shown_wtR d h) (Nat.le_trans hw (by decide))⟩
  show (if canRepr d = true then some (PyData.str d.shown) else none) = _
  rw [if_pos c]
theorem flatMap_cg {α β : Type} {l : List α} {f g : α → List β} (h : ∀ a ∈ l, f a = g a) : l.flatMap f = l.flatMap g := by
  induction l with
  | nil => rfl
  | cons a l ih => rw [List.flatMap_cons, List.flatMap_cons, h a (List.mem_cons_self ..), ih fun b hb => h b (List.mem_cons_of_mem _ hb)]
theorem fm_const {α β : Type} (l : List α) (k : List β) : (l.flatMap fun _ => k).length = l.length * k.length := by
  induction l with
  | nil => simp
  | cons a l ih => rw [List.flatMap_cons, List.length_append, ih, List.length_cons, Nat.succ_mul]; omega
theorem fm_empty {α : Type} {p : α → Bool} {f : α → Dt} {l : List α} : ((l.filter p).map f).isEmpty = !l.any p := by
  rw [Bool.eq_iff_iff, Bool.not_eq_true', List.any_eq_false]
  simp [List.isEmpty_iff, List.filter_eq_nil_iff]
theorem asc_len : ∀ (l : List Nat) (k n : Nat), (∀ s ∈ l, k ≤ s ∧ s < n) → l.Pairwise (· < ·) → l.length + k ≤ n ∨ l = []
  | [], _, _, _, _ => .inr rfl
  | s :: l, k, n, h, p => by
    have hs := h s (List.mem_cons_self ..)
    rw [List.pairwise_cons] at p
    rcases asc_len l (s + 1) n (fun t ht => ⟨p.1 t ht, (h t (List.mem_cons_of_mem _ ht)).2⟩) p.2 with q | rfl
    · left; rw [List.length_cons]; omega
    · left; simp only [List.length_cons, List.length_nil]; omega
theorem StOk.le {n : Nat} {l : List Nat} (S : StOk n l) : l.length ≤ n := by
  rcases asc_len l 0 n (fun s hs => ⟨Nat.zero_le _, S.lt s hs⟩) S.up with q | rfl
  · omega
  · exact Nat.zero_le _
theorem StOk.app {n m : Nat} {l k : List Nat} (S : StOk n l) (T : StOk m k) (h : n + m ≤ 1000) : StOk (n + m) (l ++ shN n k) where
  lt := fun s hs => by
    rcases List.mem_append.mp hs with hs | hs
    · have := S.lt s hs; omega
    · obtain ⟨t, ht, rfl⟩ := List.mem_map.mp hs
      have := T.lt t ht; omega
  up := by
    rw [List.pairwise_append]
    refine ⟨S.up, ?_, fun a ha b hb => ?_⟩
    · exact List.Pairwise.map _ (fun a b (h : a < b) => by omega) T.up
    · obtain ⟨t, ht, rfl⟩ := List.mem_map.mp hb
      have := S.lt a ha; omega
  len := by
    rw [List.length_append]
    have h1 := S.le
    have h2 := T.le
    simp only [shN, List.length_map]
    omega
theorem StOk.wide {n m : Nat} {l : List Nat} (S : StOk n l) (h : n ≤ m) : StOk m l := ⟨fun s hs => Nat.lt_of_lt_of_le (S.lt s hs) h, S.up, S.len⟩
theorem StOk.sh {n m : Nat} {k : List Nat} (T : StOk m k) (h : n + m ≤ 1000) : StOk (n + m) (shN n k) := by
  have : StOk (n + m) ([] ++ shN n k) := StOk.app ⟨fun _ h => absurd h List.not_mem_nil, .nil, Nat.zero_le _⟩ T h
  exact this
theorem PcOk.either {n1 n2 : Nat} {b1 e1 b2 e2 : List Nat} {mv1 mv2 : List Mv} (P : PcOk n1 b1 mv1 e1) (Q : PcOk n2 b2 mv2 e2) (h : n1 + n2 ≤ 1000) (hl : mv1.length + mv2.length ≤ 1000) : PcOk (n1 + n2) (b1 ++ shN n1 b2) (mv1 ++ mv2.map (mvS n1)) (e1 ++ shN n1 e2) where
  n1 := by have := P.n1; omega
  hb := P.hb.app Q.hb h
  he := P.he.app Q.he h
  hm := fun m hm => by
    rcases List.mem_append.mp hm with hm | hm
    · have := P.hm m hm
      exact ⟨by omega, by omega, this.2.2⟩
    · obtain ⟨m', hm', rfl⟩ := List.mem_map.mp hm
      have := Q.hm m' hm'
      exact ⟨show m'.p + n1 < n1 + n2 by omega, show m'.q + n1 < n1 + n2 by omega, this.2.2⟩
  l := by rw [List.length_append, List.length_map]; omega
theorem btw_snoc (l : List Nat) (a : Nat) (k : List Nat) : btw (l ++ [a]) k = btw l k ++ k.map fun b => ⟨a, "", "", b⟩ := by
  unfold btw
  rw [List.flatMap_append]
  simp
theorem btw_len (e1 b2 : List Nat) : (btw e1 b2).length = e1.length * b2.length := by
  unfold btw
  induction e1 with
  | nil => simp
  | cons a l ih => rw [List.flatMap_cons, List.length_append, ih, List.length_map, List.length_cons, Nat.succ_mul]; omega
theorem PcOk.behind {n1 n2 : Nat} {b1 e1 b2 e2 : List Nat} {mv1 mv2 : List Mv} (P : PcOk n1 b1 mv1 e1) (Q : PcOk n2 b2 mv2 e2) (h : n1 + n2 ≤ 1000) (hl : mv1.length + mv2.length + n1 * n2 ≤ 1000) : PcOk (n1 + n2) b1 (mv1 ++ mv2.map (mvS n1) ++ btw e1 (shN n1 b2)) (shN n1 e2) where
  n1 := by have := P.n1; omega
  hb := P.hb.wide (by omega)
  he := Q.he.sh h
  hm := fun m hm => by
    rcases List.mem_append.mp hm with hm | hm
    · rcases List.mem_append.mp hm with hm | hm
      · have := P.hm m hm
        exact ⟨by omega, by omega, this.2.2⟩
      · obtain ⟨m', hm', rfl⟩ := List.mem_map.mp hm
        have := Q.hm m' hm'
        exact ⟨show m'.p + n1 < n1 + n2 by omega, show m'.q + n1 < n1 + n2 by omega, this.2.2⟩
    · obtain ⟨e, he, b, hb, rfl⟩ := btw_mem.mp hm
      obtain ⟨b', hb', rfl⟩ := List.mem_map.mp hb
      have h1 := P.he.lt e he
      have h2 := Q.hb.lt b' hb'
      exact ⟨show e < n1 + n2 by omega, show b' + n1 < n1 + n2 by omega, rfl, rfl⟩
  l := by
    rw [List.length_append, List.length_append, List.length_map, btw_len]
    have h1 := P.he.le
    have h2 := Q.hb.le
    have h3 : e1.length * (shN n1 b2).length ≤ n1 * n2 := Nat.mul_le_mul h1 (by simp only [shN, List.length_map]; exact h2)
    omega
theorem q_addNs {a b : List Nat} (h : a.length + b.length ≤ 1000) : gAdd (natsD a) (natsD b) = some (natsD (a ++ b)) := by
  unfold natsD
  rw [q_addT (by simp only [List.length_map]; exact sl1000 h), List.map_append]
theorem q_addMv {a b : List Mv} (h : a.length + b.length ≤ 1000) : gAdd (.tuple (a.map mvD)) (.tuple (b.map mvD)) = some (.tuple ((a ++ b).map mvD)) := by
  rw [q_addT (by simp only [List.length_map]; exact sl1000 h), List.map_append]
theorem q_addMvL {a b : List Mv} (h : a.length + b.length ≤ 1000) : gAdd (.list (a.map mvD)) (.list (b.map mvD)) = some (.list ((a ++ b).map mvD)) := by
  rw [q_addL (by simp only [List.length_map]; exact sl1000 h), List.map_append]
theorem rfA_nats (l : List Nat) (h : ∀ s ∈ l, s < 1000) : rfA (l.map fun s => (.int (s : Nat) : Dt)) = true ∧ rwA (l.map fun s => (.int (s : Nat) : Dt)) = 14 * l.length := by
  induction l with
  | nil => exact ⟨rfl, rfl⟩
  | cons a l ih =>
    have i := ih fun s hs => h s (List.mem_cons_of_mem _ hs)
    have := h a (List.mem_cons_self ..)
    refine ⟨?_, ?_⟩
    · rw [List.map_cons, rfA, i.1, rfD, Bool.and_true]
      exact decide_eq_true (show ((a : Int)).natAbs < 10 ^ 9 by omega)
    · rw [List.map_cons, rwA, i.2, rw1, List.length_cons]
      omega
theorem letW_rf {z : Str} (h : letW z = true) : rfD (.str z) = true := by
  unfold letW at h
  rw [Bool.and_eq_true] at h
  rw [rfD, List.all_eq_true]
  intro c hc
  have h := List.all_eq_true.mp h.1 c hc
  have h := of_decide_eq_true h
  have : ∀ c ∈ ("abcdefghijklmnopqrstuvwxyz" : Str).cps.toList, c < 128 := by decide
  exact decide_eq_true (this c h)
theorem rfA_mvs {n k : Nat} (hn : n ≤ 1000) : ∀ (l : List Mv), (∀ m ∈ l, m.p < n ∧ m.q < n ∧ letW m.u = true ∧ letW m.v = true) → (∀ m ∈ l, m.u.length ≤ k ∧ m.v.length ≤ k) → rfA (l.map mvD) = true ∧ rwA (l.map mvD) ≤ (20 * k + 50) * l.length
  | [], _, _ => ⟨rfl, Nat.zero_le _⟩
  | m :: l, h, hk => by
    obtain ⟨i1, i2⟩ := rfA_mvs hn l (fun x hx => h x (List.mem_cons_of_mem _ hx)) (fun x hx => hk x (List.mem_cons_of_mem _ hx))
    have h1 := h m (List.mem_cons_self ..)
    have h2 := hk m (List.mem_cons_self ..)
    refine ⟨?_, ?_⟩
    · rw [List.map_cons, rfA, i1, Bool.and_true, mvD, rfD]
      simp only [rfA, rfD, Bool.and_true, Bool.and_eq_true, decide_eq_true_eq]
      have a1 := letW_rf h1.2.2.1
      have a2 := letW_rf h1.2.2.2
      simp only [rfD] at a1 a2
      exact ⟨by omega, a1, a2, by omega⟩
    · have e : rwA ((m :: l).map mvD) = rw1 (mvD m) + 2 + rwA (l.map mvD) := by rw [List.map_cons, rwA]
      rw [e, List.length_cons, Nat.mul_succ]
      simp only [mvD, rw1, rwA]
      omega
/-- a pacer's parts -/
def ptD (n : Nat) (b : List Nat) (mv : List Mv) (e : List Nat) : Dt := .tuple [.int n, natsD b, .tuple (mv.map mvD), natsD e]
theorem pt_rf {n k : Nat} {b e : List Nat} {mv : List Mv} (P : PcOk n b mv e) (hn : n ≤ 1000) (hk : ∀ m ∈ mv, m.u.length ≤ k ∧ m.v.length ≤ k) : rfD (ptD n b mv e) = true ∧ rw1 (ptD n b mv e) ≤ 28 * n + (20 * k + 50) * mv.length + 50 := by
  have h1 := rfA_nats b fun s hs => Nat.lt_of_lt_of_le (P.hb.lt s hs) hn
  have h2 := rfA_nats e fun s hs => Nat.lt_of_lt_of_le (P.he.lt s hs) hn
  have h3 := rfA_mvs hn mv P.hm hk
  have l1 := P.hb.le
  have l2 := P.he.le
  refine ⟨?_, ?_⟩
  · unfold ptD natsD
    simp only [rfD, rfA, h1.1, h2.1, h3.1, Bool.and_true]
    exact decide_eq_true (show ((n : Int)).natAbs < 10 ^ 9 by omega)
  · unfold ptD natsD
    simp only [rw1, rwA, h1.2, h2.2]
    omega
theorem pt_depth (n : Nat) (b : List Nat) (mv : List Mv) (e : List Nat) : PyData.depth (ptD n b mv e) ≤ 3 := by
  unfold ptD natsD
  have h : ∀ (l : List Nat), PyData.depthAll (l.map fun s => (.int (s : Nat) : Dt)) ≤ 0 := fun l => dep_all _ fun d hd => by
    obtain ⟨s, _, rfl⟩ := List.mem_map.mp hd
    simp [PyData.depth]
  have h2 : PyData.depthAll (mv.map mvD) ≤ 1 := dep_all _ fun d hd => by
    obtain ⟨m, _, rfl⟩ := List.mem_map.mp hd
    simp [mvD, PyData.depth, PyData.depthAll]
  have := h b
  have := h e
  simp only [PyData.depth, PyData.depthAll]
  omega
theorem pt_repr {n k : Nat} {b e : List Nat} {mv : List Mv} (P : PcOk n b mv e) (hn : n ≤ 1000) (hk : ∀ m ∈ mv, m.u.length ≤ k ∧ m.v.length ≤ k) (hkk : k ≤ 20) : fRepr [ptD n b mv e] = some (.str (ptD n b mv e).shown) := by
  obtain ⟨h1, h2⟩ := pt_rf P hn hk
  refine repr_fnR h1 (Nat.le_trans (pt_depth ..) (by decide)) (Nat.le_trans h2 ?_)
  have := P.l
  have h3 : (20 * k + 50) * mv.length ≤ 450 * 1000 := Nat.mul_le_mul (by omega) this
  omega
theorem cut_take {z : Str} {i : Nat} (h : i ≤ z.length) : cutS z none (some (i : Int)) = txt (z.cps.toList.take i) := by
  have e : HT.sIx z.length z.length (some (i : Int)) = i := by
    show (if (i : Int) < 0 then ((i : Int) + (z.length : Int)).toNat else min (i : Int).toNat z.length) = i
    rw [if_neg (by omega)]
    omega
  have e0 : HT.sIx z.length 0 none = 0 := rfl
  show (⟨((z.cps.toList.drop (HT.sIx z.length 0 none)).take (HT.sIx z.length z.length (some (i : Int)) - HT.sIx z.length 0 none)).toArray⟩ : Str) = _
  rw [e, e0]
  rfl
theorem cut_drop {z : Str} {i : Nat} (h : i ≤ z.length) : cutS z (some (i : Int)) none = txt (z.cps.toList.drop i) := by
  have e : HT.sIx z.length 0 (some (i : Int)) = i := by
    show (if (i : Int) < 0 then ((i : Int) + (z.length : Int)).toNat else min (i : Int).toNat z.length) = i
    rw [if_neg (by omega)]
    omega
  have e0 : HT.sIx z.length z.length none = z.length := rfl
  show (⟨((z.cps.toList.drop (HT.sIx z.length 0 (some (i : Int)))).take (HT.sIx z.length z.length none - HT.sIx z.length 0 (some (i : Int)))).toArray⟩ : Str) = _
  rw [e, e0, List.take_of_length_le (by rw [List.length_drop, len_cps]; omega)]
  rfl
theorem forGo_find {β : Type} {g : Dt → SS → Option SS} {n : SS → SO} {enc : β → Dt} (R : SS → Prop) (p : β → Bool) (r : Dt) : ∀ (items : List β), (∀ b ∈ items, ∀ ss, R ss → ∃ ss1, g (enc b) ss = some ss1 ∧ (if p b = true then ∃ s2, n ss1 = .rt r s2 else ∃ s2, (n ss1 = .nx s2 ∨ n ss1 = .ct s2) ∧ R s2)) →
    ∀ ss, R ss → if items.any p = true then ∃ s2, forGo g n (items.map enc) ss = .rt r s2 else ∃ s2, forGo g n (items.map enc) ss = .nx s2 ∧ R s2
  | [], _, ss, h => by
    rw [List.any_nil, if_neg (by decide)]
    exact ⟨ss, rfl, h⟩
  | b :: items, H, ss, h => by
    obtain ⟨ss1, e1, k⟩ := H b (List.mem_cons_self ..) ss h
    rw [List.any_cons]
    cases hp : p b with
    | true =>
      rw [hp, if_pos rfl] at k
      obtain ⟨s2, k⟩ := k
      rw [Bool.true_or, if_pos rfl]
      refine ⟨s2, ?_⟩
      rw [List.map_cons, forGo, e1]
      dsimp only
      rw [k]
    | false =>
      rw [hp, if_neg (by decide)] at k
      obtain ⟨s2, k, h2⟩ := k
      rw [Bool.false_or]
      have i := forGo_find R p r items (fun b hb => H b (List.mem_cons_of_mem _ hb)) s2 h2
      have e : forGo g n ((b :: items).map enc) ss = forGo g n (items.map enc) s2 := by
        rw [List.map_cons, forGo, e1]
        dsimp only
        rcases k with k | k <;> rw [k]
      rw [e]
      exact i
theorem forGo_all {β : Type} {g : Dt → SS → Option SS} {n : SS → SO} {enc : β → Dt} (R : SS → Prop) (items : List β) (H : ∀ b ∈ items, ∀ ss, R ss → ∃ ss1 s2, g (enc b) ss = some ss1 ∧ (n ss1 = .nx s2 ∨ n ss1 = .ct s2) ∧ R s2) (ss : SS) (h : R ss) : ∃ s2, forGo g n (items.map enc) ss = .nx s2 ∧ R s2 := by
  have := forGo_find (g := g) (n := n) (enc := enc) R (fun _ => false) .none items (fun b hb ss h => by
    obtain ⟨ss1, s2, e1, e2, e3⟩ := H b hb ss h
    exact ⟨ss1, e1, by rw [if_neg (by decide)]; exact ⟨s2, e2, e3⟩⟩) ss h
  rw [if_neg (by rw [List.any_eq_true]; rintro ⟨_, _, h⟩; cases h)] at this
  exact this
theorem lc2_enc {β γ : Type} {vs vs1 : List Nat} {g g1 : Dt → SS → Option SS} {mi : SS → EO (List Dt)} {me : SS → EO Dt} {s0 : SS} {enc : β → Dt} {enc1 : γ → Dt} {s1 s2 : β → SS} {s3 : β → γ → SS} {its : β → List γ} {f : β → γ → Dt} (hg : ∀ b, g (enc b) s0 = some (s1 b)) (h0 : ∀ b, wipeS (s1 b) vs1 = s2 b) (hg1 : ∀ b c, g1 (enc1 c) (s2 b) = some (s3 b c)) (hw1 : ∀ b c, wipeS (s3 b c) vs1 = s2 b) (hw : ∀ b, wipeS (s2 b) vs = s0) :
    ∀ (items : List β) (acc : List Dt), (∀ b ∈ items, mi (s1 b) = .ok ((its b).map enc1) (s1 b)) → (∀ b ∈ items, ∀ c ∈ its b, me (s3 b c) = .ok (f b c) (s3 b c)) → acc.length + (items.flatMap its).length ≤ sizeLine →
    lc2Go vs vs1 g mYes mi g1 mYes me (items.map enc) s0 acc = .ok (acc ++ items.flatMap fun b => (its b).map (f b)) s0
  | [], acc, _, _, _ => by simp [lc2Go]
  | b :: items, acc, hi, he, hl => by
    rw [List.flatMap_cons, List.length_append] at hl
    have e1 := lc_enc (g := g1) (vs := vs1) (mt := mYes) (me := me) (s0 := s2 b) enc1 (s3 b) (fun _ => true) (f b) (its b) acc (fun c _ => hg1 b c) (fun _ _ => rfl) (fun c hc _ => he b (List.mem_cons_self ..) c hc) (fun c _ => hw1 b c) (by omega)
    rw [List.filter_eq_self.mpr fun _ _ => rfl] at e1
    rw [List.map_cons, lc2Go, hg b]
    simp only [mYes, EO.calm, EO.bind, if_true, hi b (List.mem_cons_self ..), h0]
    rw [e1]
    dsimp only
    rw [hw b]
    have e2 := lc2_enc (its := its) hg h0 hg1 hw1 hw items (acc ++ (its b).map (f b)) (fun b hb => hi b (List.mem_cons_of_mem _ hb)) (fun b hb => he b (List.mem_cons_of_mem _ hb)) (by rw [List.length_append, List.length_map]; omega)
    rw [List.flatMap_cons, ← List.append_assoc]
    exact e2
theorem e_Lc2 {β γ : Type} {S S1 S2 : SS} {m : SS → EO (List Dt)} {vs vs1 : List Nat} {g g1 : Dt → SS → Option SS} {mi : SS → EO (List Dt)} {me : SS → EO Dt} {s0 : SS} {enc : β → Dt} {enc1 : γ → Dt} {s1 s2 : β → SS} {s3 : β → γ → SS} {items : List β} {its : β → List γ} {f : β → γ → Dt} (hm : m S = .ok (items.map enc) S1) (h0 : wipeS S1 vs = s0) (hg : ∀ b, g (enc b) s0 = some (s1 b)) (hi : ∀ b ∈ items, mi (s1 b) = .ok ((its b).map enc1) (s1 b)) (h1 : ∀ b, wipeS (s1 b) vs1 = s2 b) (hg1 : ∀ b c, g1 (enc1 c) (s2 b) = some (s3 b c)) (he : ∀ b ∈ items, ∀ c ∈ its b, me (s3 b c) = .ok (f b c) (s3 b c)) (hr : restS S1 s0 vs = S2) (hl : (items.flatMap its).length ≤ sizeLine)
    (hw1 : ∀ b c, wipeS (s3 b c) vs1 = s2 b) (hw : ∀ b, wipeS (s2 b) vs = s0) : mLc2 m vs vs1 g mYes mi g1 mYes me S = .ok (.list (items.flatMap fun b => (its b).map (f b))) S2 := by
  unfold mLc2
  rw [hm]
  simp only [EO.bind, h0]
  rw [lc2_enc hg h1 hg1 hw1 hw items [] hi he (by simpa using hl)]
  simp [hr]
end VL

namespace VL
open PySem PySem.Spec L2
open PyProof.Rows hiding St
variable [WW]
/-- N behind it, C at a continue, B at a break, T at a return -/
def WpD (o : SO) (N C B : SS → Prop) (T : Dt → SS → Prop) : Prop := match o with
  | .nx s => N s
  | .ct s => C s
  | .bk s => B s
  | .rt d s => T d s
  | _ => False
/-- .. not to be unfolded -/
structure Wp (o : SO) (N C B : SS → Prop) (T : Dt → SS → Prop) : Prop where
  ok : WpD o N C B T
section
variable {S S1 : SS} {N C B : SS → Prop} {T : Dt → SS → Prop} {s t : SS → SO}
theorem w_nx (h : N S) : Wp (.nx S) N C B T := ⟨h⟩
theorem w_ct (h : C S) : Wp (.ct S) N C B T := ⟨h⟩
theorem w_bk (h : B S) : Wp (.bk S) N C B T := ⟨h⟩
theorem w_at {o : SO} (h : o = .nx S1) (g : N S1) : Wp o N C B T := by rw [h]; exact ⟨g⟩
theorem w_rt {o : SO} {d : Dt} (h : o = .rt d S1) (g : T d S1) : Wp o N C B T := by rw [h]; exact ⟨g⟩
theorem w_Seq0 (h : s S = .nx S1) (g : Wp (t S1) N C B T) : Wp (mSeq s t S) N C B T := by rw [seq_nx h]; exact g
theorem w_SeqW (h : Wp (s S) (fun S1 => Wp (t S1) N C B T) C B T) : Wp (mSeq s t S) N C B T := by
  unfold mSeq
  cases e : s S with
  | nx s1 => rw [e] at h; exact (show Wp (t s1) N C B T from h.ok)
  | ct s1 => rw [e] at h; exact ⟨h.ok⟩
  | bk s1 => rw [e] at h; exact ⟨h.ok⟩
  | rt d s1 => rw [e] at h; exact ⟨h.ok⟩
  | exc c fs s1 => rw [e] at h; exact h.ok.elim
  | no => rw [e] at h; exact h.ok.elim
theorem w_SeqIf {c : SS → EO Bool} {a b : SS → SO} (h : Wp (mIfS c a b S) (fun S1 => Wp (t S1) N C B T) C B T) : Wp (mSeq (mIfS c a b) t S) N C B T := w_SeqW h
theorem w_SeqFor {m : SS → EO (List Dt)} {g : Dt → SS → Option SS} {n : SS → SO} (h : Wp (mFor m g n S) (fun S1 => Wp (t S1) N C B T) C B T) : Wp (mSeq (mFor m g n) t S) N C B T := w_SeqW h
theorem w_SeqWh {c : SS → EO Bool} {n : SS → SO} (h : Wp (mWhile c n S) (fun S1 => Wp (t S1) N C B T) C B T) : Wp (mSeq (mWhile c n) t S) N C B T := w_SeqW h
theorem w_IfS {c : SS → EO Bool} {m n : SS → SO} {z : Bool} (h : c S = .ok z S1) (g1 : z = true → Wp (m S1) N C B T) (g2 : z = false → Wp (n S1) N C B T) : Wp (mIfS c m n S) N C B T := by
  rw [if_ok h]
  cases z with
  | true => exact g1 rfl
  | false => exact g2 rfl
theorem w_Ret {m : SS → EO Dt} {d : Dt} (h : m S = .ok d S1) (g : T d S1) : Wp (mRet m S) N C B T := w_rt (e_Ret h) g
theorem w_imp {o : SO} {N' C' B' : SS → Prop} {T' : Dt → SS → Prop} (h : Wp o N C B T) (hN : ∀ s, N s → N' s) (hC : ∀ s, C s → C' s) (hB : ∀ s, B s → B' s) (hT : ∀ d s, T d s → T' d s) : Wp o N' C' B' T' := by
  cases o with
  | nx s => exact ⟨hN _ h.ok⟩
  | ct s => exact ⟨hC _ h.ok⟩
  | bk s => exact ⟨hB _ h.ok⟩
  | rt d s => exact ⟨hT _ _ h.ok⟩
  | exc c fs s => exact h.ok.elim
  | no => exact h.ok.elim
theorem w_For {β : Type} {m : SS → EO (List Dt)} {g : Dt → SS → Option SS} {n : SS → SO} {enc : β → Dt} {items : List β} (R : Nat → SS → Prop) (hi : m S = .ok (items.map enc) S1) (h0 : R 0 S1)
    (hs : ∀ (k : Nat) (hk : k < items.length) ss, R k ss → ∃ ss1, g (enc items[k]) ss = some ss1 ∧ Wp (n ss1) (R (k + 1)) (R (k + 1)) N T) (hN : ∀ ss, R items.length ss → N ss) : Wp (mFor m g n S) N C B T := by
  rw [for_ok hi]
  have key : ∀ (j k : Nat) ss, k + j = items.length → R k ss → Wp (forGo g n ((items.drop k).map enc) ss) N C B T := by
    intro j
    induction j with
    | zero =>
      intro k ss hk r
      rw [List.drop_of_length_le (by omega)]
      have : k = items.length := by omega
      subst this
      exact ⟨hN _ r⟩
    | succ j ih =>
      intro k ss hk r
      have hlt : k < items.length := by omega
      obtain ⟨ss1, e1, w⟩ := hs k hlt ss r
      rw [List.drop_eq_getElem_cons hlt, List.map_cons, forGo, e1]
      dsimp only
      cases e : n ss1 with
      | nx s2 => rw [e] at w; exact ih (k + 1) s2 (by omega) w.ok
      | ct s2 => rw [e] at w; exact ih (k + 1) s2 (by omega) w.ok
      | bk s2 => rw [e] at w; exact ⟨w.ok⟩
      | rt d s2 => rw [e] at w; exact ⟨w.ok⟩
      | exc c fs s2 => rw [e] at w; exact w.ok.elim
      | no => rw [e] at w; exact w.ok.elim
  exact key items.length 0 S1 (by omega) h0
/-- the same state in front of each turn -/
theorem w_ForI {β : Type} {m : SS → EO (List Dt)} {g : Dt → SS → Option SS} {n : SS → SO} {enc : β → Dt} {items : List β} (R : SS → Prop) (hi : m S = .ok (items.map enc) S1) (h0 : R S1)
    (hs : ∀ b ∈ items, ∀ ss, R ss → ∃ ss1, g (enc b) ss = some ss1 ∧ Wp (n ss1) R R N T) (hN : ∀ ss, R ss → N ss) : Wp (mFor m g n S) N C B T :=
  w_For (fun _ => R) hi h0 (fun k hk ss r => hs _ (List.getElem_mem hk) ss r) hN
theorem whileN_wp {c : SS → EO Bool} {n : SS → SO} {α : Type} (R : α → SS → Prop) (μ : α → Nat) (hs : ∀ a ss, R a ss → ∃ z ss1, c ss = .ok z ss1 ∧ (z = true → Wp (n ss1) (fun s2 => ∃ a', μ a' < μ a ∧ R a' s2) (fun s2 => ∃ a', μ a' < μ a ∧ R a' s2) N T) ∧ (z = false → N ss1)) :
    ∀ (k : Nat) (a : α) (ss : SS), μ a < k → R a ss → Wp (whileN c n k ss) N C B T
  | 0, _, _, h, _ => absurd h (Nat.not_lt_zero _)
  | k + 1, a, ss, h, r => by
    obtain ⟨z, ss1, e1, e2, e3⟩ := hs a ss r
    rw [whileN, e1]
    dsimp only [EO.st]
    cases z with
    | false => exact ⟨e3 rfl⟩
    | true =>
      rw [if_pos rfl]
      have w := e2 rfl
      cases e : n ss1 with
      | nx s2 =>
        rw [e] at w
        obtain ⟨a', h1, h2⟩ := w.ok
        exact whileN_wp R μ hs k a' s2 (by omega) h2
      | ct s2 =>
        rw [e] at w
        obtain ⟨a', h1, h2⟩ := w.ok
        exact whileN_wp R μ hs k a' s2 (by omega) h2
      | bk s2 => rw [e] at w; exact ⟨w.ok⟩
      | rt d s2 => rw [e] at w; exact ⟨w.ok⟩
      | exc c fs s2 => rw [e] at w; exact w.ok.elim
      | no => rw [e] at w; exact w.ok.elim
theorem w_While {c : SS → EO Bool} {n : SS → SO} {α : Type} (R : α → SS → Prop) (μ : α → Nat) (a : α) (h0 : R a S) (hs : ∀ a ss, R a ss → ∃ z ss1, c ss = .ok z ss1 ∧ (z = true → Wp (n ss1) (fun s2 => ∃ a', μ a' < μ a ∧ R a' s2) (fun s2 => ∃ a', μ a' < μ a ∧ R a' s2) N T) ∧ (z = false → N ss1)) : Wp (mWhile c n S) N C B T := by
  have w : Wp (whileN c n (μ a + 1) S) N C B T := whileN_wp R μ hs (μ a + 1) a S (by omega) h0
  rw [mWhile_of rfl (by intro e; rw [e] at w; exact w.ok)]
  exact w
theorem go_turn {A : Option SS} {n : SS → SO} (h : A = some S1) (w : Wp (n S1) N C B T) : ∃ ss1, A = some ss1 ∧ Wp (n ss1) N C B T := ⟨_, h, w⟩
theorem go_while {A : EO Bool} {z : Bool} {P Q : Bool → SS → Prop} (h : A = .ok z S1) (w1 : P z S1) (w2 : Q z S1) : ∃ z ss1, A = .ok z ss1 ∧ P z ss1 ∧ Q z ss1 := ⟨_, _, h, w1, w2⟩
theorem o_Fw {o : SO} {d : Dt} (h : Wp o (fun _ => d = .none) (fun _ => False) (fun _ => False) (fun d' _ => d' = d)) : outF o = .ok d := by
  cases o with
  | nx s => have h : d = .none := h.ok; subst h; rfl
  | ct s => exact h.ok.elim
  | bk s => exact h.ok.elim
  | rt d' s => have h : d' = d := h.ok; subst h; rfl
  | exc c fs s => exact h.ok.elim
  | no => exact h.ok.elim
theorem o_Xw {o : SO} {Q : Dt → Dk → Prop} (h : Wp o (fun _ => False) (fun _ => False) (fun _ => False) (fun d s => ∃ a D r, s = some (.dk a D.1 D.2.1 D.2.2) :: r ∧ Q d D)) : ∃ d D, outX o = .ok (d, D) ∧ Q d D := by
  cases o with
  | nx s => exact h.ok.elim
  | ct s => exact h.ok.elim
  | bk s => exact h.ok.elim
  | rt d s =>
    obtain ⟨a, D, r, e, q⟩ := h.ok
    exact ⟨d, D, o_X (by rw [e]), q⟩
  | exc c fs s => exact h.ok.elim
  | no => exact h.ok.elim
theorem o_Rw {o : SO} {d : Dt} (h : Wp o (fun _ => False) (fun _ => False) (fun _ => False) (fun d' _ => d' = d)) : ∃ s, o = .rt d s := by
  cases o with
  | nx s => exact h.ok.elim
  | ct s => exact h.ok.elim
  | bk s => exact h.ok.elim
  | rt d' s => have h : d' = d := h.ok; subst h; exact ⟨_, rfl⟩
  | exc c fs s => exact h.ok.elim
  | no => exact h.ok.elim
theorem w_Set {i : Nat} {m : SS → EO NV} (h : mSet i m S = .nx S1) (g : N S1) : Wp (mSet i m S) N C B T := w_at h g
theorem w_Par {i j : Nat} {m n : SS → EO NV} (h : mPar i j m n S = .nx S1) (g : N S1) : Wp (mPar i j m n S) N C B T := w_at h g
theorem w_ParT {is : List Nat} {m : SS → EO (List NV)} (h : mParT is m S = .nx S1) (g : N S1) : Wp (mParT is m S) N C B T := w_at h g
theorem w_Append {i : Nat} {m : SS → EO Dt} (h : mAppend i m S = .nx S1) (g : N S1) : Wp (mAppend i m S) N C B T := w_at h g
theorem w_Extend {i : Nat} {m : SS → EO Dt} (h : mExtend i m S = .nx S1) (g : N S1) : Wp (mExtend i m S) N C B T := w_at h g
theorem w_Put {i : Nat} {m n : SS → EO Dt} (h : mPut i m n S = .nx S1) (g : N S1) : Wp (mPut i m n S) N C B T := w_at h g
theorem w_Asg {g : Dt → SS → Option SS} {m : SS → EO Dt} (h : mAsg g m S = .nx S1) (k : N S1) : Wp (mAsg g m S) N C B T := w_at h k
theorem w_SetF {i : Nat} {c f : Str} {m : SS → EO Dt} (h : mSetF i c f m S = .nx S1) (g : N S1) : Wp (mSetF i c f m S) N C B T := w_at h g
theorem w_Drop {α : Type} {m : SS → EO α} (h : mDrop m S = .nx S1) (g : N S1) : Wp (mDrop m S) N C B T := w_at h g
end
end VL

namespace VL
open PySem PySem.Spec L2
open PyProof.Rows hiding St
variable [WW]
open PySem.W in
/-- the order of what is sorted -/
def sortD (ds : List Dt) : List Dt := ds.mergeSort (dataLe false id)
open PySem.W in
def alikeB (ds : List Dt) : Bool := ds.all fun d => ds.all fun e => alike d e
/-- tuples with an item at least, or no tuples and no None -/
def sortB (ds : List Dt) : Bool := (ds.all fun d => match d with | .tuple (_ :: _) => true | _ => false) || ds.all fun d => match d with | .tuple _ => false | .none => false | _ => true
open PySem.W in
theorem alikeB_of {ds : List Dt} (h : alikeB ds = true) : AllAlike ds := fun d hd e he => List.all_eq_true.mp (List.all_eq_true.mp h d hd) e he
open PySem.W in
theorem sortB_of {ds : List Dt} (h : sortB ds = true) : Sortable ds := by
  unfold sortB at h
  rw [Bool.or_eq_true] at h
  rcases h with h | h
  · left
    intro d hd
    have := List.all_eq_true.mp h d hd
    cases d with
    | tuple xs =>
      cases xs with
      | nil => cases this
      | cons x r => exact ⟨x, r, rfl⟩
    | _ => cases this
  · right
    intro d hd
    have := List.all_eq_true.mp h d hd
    cases d with
    | tuple xs => cases this
    | none => cases this
    | _ => exact ⟨(by intro e; cases e), (by intro xs e; cases e)⟩
def RvD (K : PySem.W.Frag) (F : Hp) (v : Value) (d : Dt) : Prop := ∃ x, RelV x v ∧ Rp K F x d
open PySem.W in
theorem each_rv {K : PySem.W.Frag} {F : Hp} : ∀ {ds : List Dt} {ys : List V} {vs : List Value}, RpA K F ys ds → Vals ys vs → EachIs (RvD K F) vs ds
  | [], _, _, h, r => by cases h; cases r; exact .nil
  | d :: ds, _, _, h, r => by
    cases h with
    | cons h1 h2 => cases r with
      | cons r1 r2 => exact .cons ⟨_, r1, h1⟩ (each_rv h2 r2)
open PySem.W in
theorem rv_each {K : PySem.W.Frag} {F : Hp} : ∀ {ds : List Dt} {vs : List Value}, EachIs (RvD K F) vs ds → ∃ ys, Vals ys vs ∧ RpA K F ys ds
  | _, _, .nil => ⟨[], .nil, .nil⟩
  | _, _, .cons ⟨x, r, h⟩ t => by
    obtain ⟨ys, r2, h2⟩ := rv_each t
    exact ⟨x :: ys, .cons r r2, .cons h h2⟩
/-- sorted(xs), a list of any alike data -/
def rSortG (K : PySem.W.Frag) : List V → Hp → VK → Prop := fun vs H Q => ∃ (a : Addr) (F : Hp) (ys : List V) (ds : List Dt), vs = [V.ref a] ∧ Same F H ∧ SqL K H a ys ∧ RpA K F ys ds ∧ alikeB ds = true ∧ sortB ds = true ∧ (∀ d ∈ ds, SeqAt.shaped d = true) ∧
  ∀ (p : Addr) (zs : List V), H p = none → RpA K F zs (sortD ds) → Q (.ref p) (upd H p (.lst zs))
open PySem.W in
theorem cr_sortG {X : Cx} (hu : X.A.units + 66 < cLine) : CallR X (.builtin "sorted") (rSortG X.K) := by
  intro pins s σ H vs us Q I r h
  obtain ⟨a, F, ys, ds, rfl, sF, hs, hr, ha, hb, hsh, q⟩ := h
  obtain ⟨its, rv, hl, hz⟩ := I.list hs
  rw [Vals.ref1 r]
  have e1 : EachIs (RvD X.K F) its ds := each_rv hr rv
  have er : EachIs (fun v b => ∃ as, Reads s.heap v (id b) as) its ds := by
    have key : ∀ {ds : List Dt} {vs : List Value}, EachIs (RvD X.K F) vs ds → (∀ d ∈ ds, SeqAt.shaped d = true) → EachIs (fun v b => ∃ as, Reads s.heap v (id b) as) vs ds := by
      intro ds vs e
      induction e with
      | nil => intro _; exact .nil
      | @cons v d vs ds r1 _ ih =>
        intro hsh
        obtain ⟨x, rx, hx⟩ := r1
        exact .cons (Dp.reads I d x v (Rp.dp d x (shaped_lay (hsh d (List.mem_cons_self ..))) (Rp.mono sF d x hx)) rx) (ih fun d hd => hsh d (List.mem_cons_of_mem _ hd))
    exact key e1 hsh
  have hL : ds.length ≤ sizeLine := by rw [← hr.length]; exact hz
  have hd : ∀ d ∈ ds, d.depth ≤ 64 := fun d hd => by
    have := hsh d hd
    unfold SeqAt.shaped at this
    rw [Bool.and_eq_true] at this
    exact of_decide_eq_true this.2
  refine sorted_data (enc := id) (R := RvD X.K F) (by simpa using hl.isList) e1 er (by rw [List.map_id]; exact alikeB_of ha) (by rw [List.map_id]; exact sortB_of hb) hL (fun b hb => by have := hd b hb; show X.A.units + 2 + b.depth < cLine; omega) fun out ho eo => ?_
  obtain ⟨zs, rz, hz2⟩ := rv_each eo
  obtain ⟨ep, he'⟩ := PyProof.Rows.sortedAll_at s.heap its out.toArray
  have hlen : zs.length ≤ sizeLine := by
    rw [hz2.length, List.length_mergeSort]
    exact hL
  exact ⟨.ref _, upd H (s.heap.objs.size + 1) (.lst zs), I.laid (t' := s.toks) (fun _ _ => PyProof.Rows.sortedAll_old) (Nat.le_succ _) ⟨hlen, out, ep, rz, he'⟩, rfl, q _ _ (I.hok.fresh (Nat.le_succ _)) hz2⟩
def fSort : List Dt → Option (List Dt)
  | [.list ds] => if alikeB ds = true ∧ sortB ds = true ∧ (ds.all SeqAt.shaped) = true then some (sortD ds) else none
  | _ => none
section
variable {ι : Type} {X : ι → Cx} {k : Nat} {P : Program} {w : World} {K : PySem.W.Frag} {mg : Str → Option Value} {base : Heap} {W : WX} {e a b c : Expr} {es : List Expr} {pos : Pos}
theorem u_sorted (C : VC X k P w K mg base W) : OuS X K (.builtin "sorted") fSort := by
  refine ⟨rSortG K, fun i => by rw [← C.eK i]; exact cr_sortG (by have := (C.rm i).un; omega), fun ω H xs ds z Q bx hf q => ?_⟩
  unfold fSort at hf
  split at hf
  · rename_i ds'
    split at hf
    · rename_i hc
      cases hf
      obtain ⟨x, rfl, b1⟩ := bor1 bx
      obtain ⟨a, ys, rfl, h1, h2⟩ := bor_lst b1
      exact ⟨a, hid ω H, ys, ds', rfl, hid_le, .of h1, h2, hc.1, hc.2.1, fun d hd => List.all_eq_true.mp hc.2.2 d hd, fun p zs hp hz => q p zs hp hz⟩
    · cases hf
  · cases hf
def intsD : List Dt → Option (List Int)
  | [] => some []
  | .int i :: ds => (intsD ds).map (i :: ·)
  | _ :: _ => none
theorem rpa_ints {H : Hp} : ∀ {ds : List Dt} {xs : List V} {ns : List Int}, RpA K H xs ds → intsD ds = some ns → xs = ns.map V.int
  | [], _, _, h, e => by cases h; cases e; rfl
  | d :: ds, _, _, h, e => by
    cases h with
    | cons h1 h2 =>
      cases d with
      | int i =>
        unfold intsD at e
        obtain ⟨ns, e1, rfl⟩ := Option.map_eq_some_iff.mp e
        cases h1
        rw [rpa_ints h2 e1]
        rfl
      | _ => cases e
def fSumI : List Dt → Option Dt
  | [.list ds] => (intsD ds).map fun ns => .int ns.sum
  | _ => none
theorem u_sumI (C : VC X k P w K mg base W) : BuS X K (.builtin "sum") fSumI := by
  refine ⟨rSum K, fun i => by rw [← C.eK i]; exact cr_sum (C.ca i), fun ω ss σ H xs ds z Q rs bx hf q => ?_⟩
  unfold fSumI at hf
  split at hf
  · obtain ⟨ns, e1, rfl⟩ := Option.map_eq_some_iff.mp hf
    obtain ⟨x, rfl, b1⟩ := bor1 bx
    obtain ⟨a, ys, rfl, h1, h2⟩ := bor_lst b1
    have := rpa_ints h2 e1
    subst this
    exact ⟨a, ns, rfl, .of h1, q _ _ (.refl _) (.int _)⟩
  · cases hf
def bestI (f : Int → Int → Bool) : List Int → Option Int
  | [] => none
  | n :: ns => some (ns.foldl (fun m z => if f z m then z else m) n)
theorem best_of {f : Int → Int → Bool} (hf : ∀ a b, f a b = true ↔ ¬ (f b a = true) ∧ a ≠ b) (ht : ∀ a b c, f a b = true → f b c = true → f a c = true) {ns : List Int} {m : Int} (h : bestI f ns = some m) : m ∈ ns ∧ ∀ y ∈ ns, f y m = false := by
  cases ns with
  | nil => cases h
  | cons n ns =>
    have h : ns.foldl (fun m z => if f z m then z else m) n = m := by injection h
    have irr : ∀ a, f a a = false := fun a => by
      cases e : f a a with
      | false => rfl
      | true => exact absurd rfl ((hf a a).mp e).2
    have key : ∀ (ns : List Int) (n : Int), (ns.foldl (fun m z => if f z m then z else m) n = n ∨ ns.foldl (fun m z => if f z m then z else m) n ∈ ns) ∧ (∀ y ∈ ns, f y (ns.foldl (fun m z => if f z m then z else m) n) = false) ∧ ∀ y, f y n = false → f y (ns.foldl (fun m z => if f z m then z else m) n) = false := by
      intro ns
      induction ns with
      | nil => exact fun n => ⟨.inl rfl, fun y h => absurd h List.not_mem_nil, fun _ h => h⟩
      | cons a ns ih =>
        intro n
        rw [List.foldl_cons]
        obtain ⟨i1, i2, i3⟩ := ih (if f a n then a else n)
        have up : ∀ y, f y n = false → f y (if f a n then a else n) = false := fun y hy => by
          by_cases c : f a n = true
          · rw [if_pos c]
            cases e : f y a with
            | false => rfl
            | true =>
              have := ht y a n e c
              rw [hy] at this
              cases this
          · rw [if_neg c]; exact hy
        refine ⟨?_, fun y hy => ?_, fun y hy => i3 y (up y hy)⟩
        · rcases i1 with i1 | i1
          · rw [i1]
            by_cases c : f a n = true
            · rw [if_pos c]; exact .inr (List.mem_cons_self ..)
            · rw [if_neg c]; exact .inl rfl
          · exact .inr (List.mem_cons_of_mem _ i1)
        · rcases List.mem_cons.mp hy with rfl | hy
          · apply i3
            by_cases c : f y n = true
            · rw [if_pos c]; exact irr y
            · rw [if_neg c]
              cases e : f y n with
              | false => rfl
              | true => exact absurd e c
          · exact i2 y hy
    obtain ⟨k1, k2, k3⟩ := key ns n
    rw [h] at k1 k2 k3
    refine ⟨?_, fun y hy => ?_⟩
    · rcases k1 with k1 | k1
      · rw [k1]; exact List.mem_cons_self ..
      · exact List.mem_cons_of_mem _ k1
    · rcases List.mem_cons.mp hy with rfl | hy
      · exact k3 y (irr y)
      · exact k2 y hy
def maxI : List Int → Option Int := bestI fun a b => decide (a > b)
def minI : List Int → Option Int := bestI fun a b => decide (a < b)
theorem maxI_of {ns : List Int} {m : Int} (h : maxI ns = some m) : m ∈ ns ∧ ∀ y ∈ ns, y ≤ m := by
  obtain ⟨h1, h2⟩ := best_of (f := fun a b => decide (a > b)) (fun a b => by simp only [decide_eq_true_eq]; omega) (fun a b c h1 h2 => by simp only [decide_eq_true_eq] at *; omega) h
  exact ⟨h1, fun y hy => by have := of_decide_eq_false (h2 y hy); omega⟩
theorem minI_of {ns : List Int} {m : Int} (h : minI ns = some m) : m ∈ ns ∧ ∀ y ∈ ns, m ≤ y := by
  obtain ⟨h1, h2⟩ := best_of (f := fun a b => decide (a < b)) (fun a b => by simp only [decide_eq_true_eq]; omega) (fun a b c h1 h2 => by simp only [decide_eq_true_eq] at *; omega) h
  exact ⟨h1, fun y hy => by have := of_decide_eq_false (h2 y hy); omega⟩
def fMaxL : List Dt → Option Dt
  | [.list ds] => ((intsD ds).bind maxI).map .int
  | _ => none
def fMinL : List Dt → Option Dt
  | [.list ds] => ((intsD ds).bind minI).map .int
  | _ => none
theorem u_maxL (C : VC X k P w K mg base W) : BuS X K (.builtin "max") fMaxL := by
  refine ⟨rMax K, fun i => by rw [← C.eK i]; exact cr_max (C.ca i), fun ω ss σ H xs ds z Q rs bx hf q => ?_⟩
  unfold fMaxL at hf
  split at hf
  · obtain ⟨m, e0, rfl⟩ := Option.map_eq_some_iff.mp hf
    obtain ⟨ns, e1, e2⟩ := Option.bind_eq_some_iff.mp e0
    obtain ⟨x, rfl, b1⟩ := bor1 bx
    obtain ⟨a, ys, rfl, h1, h2⟩ := bor_lst b1
    have := rpa_ints h2 e1
    subst this
    obtain ⟨m1, m2⟩ := maxI_of e2
    refine ⟨a, ns, rfl, .of h1, List.length_pos_of_mem m1, fun m' g1 g2 => ?_⟩
    have : m' = m := Int.le_antisymm (m2 m' g1) (g2 m m1)
    rw [this]
    exact q _ _ (.refl _) (.int _)
  · cases hf
theorem u_minL (C : VC X k P w K mg base W) : BuS X K (.builtin "min") fMinL := by
  refine ⟨rMin K, fun i => by rw [← C.eK i]; exact cr_min (C.ca i), fun ω ss σ H xs ds z Q rs bx hf q => ?_⟩
  unfold fMinL at hf
  split at hf
  · obtain ⟨m, e0, rfl⟩ := Option.map_eq_some_iff.mp hf
    obtain ⟨ns, e1, e2⟩ := Option.bind_eq_some_iff.mp e0
    obtain ⟨x, rfl, b1⟩ := bor1 bx
    obtain ⟨a, ys, rfl, h1, h2⟩ := bor_lst b1
    have := rpa_ints h2 e1
    subst this
    obtain ⟨m1, m2⟩ := minI_of e2
    refine ⟨a, ns, rfl, .of h1, List.length_pos_of_mem m1, fun m' g1 g2 => ?_⟩
    have : m' = m := Int.le_antisymm (g2 m m1) (m2 m' g1)
    rw [this]
    exact q _ _ (.refl _) (.int _)
  · cases hf
def fAbs : List Dt → Option Dt
  | [.int i] => some (.int (if i < 0 then -i else i))
  | _ => none
theorem u_abs (C : VC X k P w K mg base W) : BuS X K (.builtin "abs") fAbs := by
  refine ⟨_, fun i => call_abs, fun ω ss σ H xs ds z Q rs bx hf q => ?_⟩
  unfold fAbs at hf
  split at hf
  · cases hf
    obtain ⟨x, rfl, b1⟩ := bor1 bx
    have h := b1.rp
    cases h
    exact ⟨_, rfl, q _ _ (.refl _) (.int _)⟩
  · cases hf
end
end VL

namespace VL
open PySem PySem.Spec L2
open PyProof.Rows hiding St
variable [WW]
def pickG {α : Type} (xs : List α) (lo hi st : Option Int) : List α := (sliceRange (sliceBounds lo hi st xs.length).1 (sliceBounds lo hi st xs.length).2.1 (sliceBounds lo hi st xs.length).2.2).filterMap (xs[·]?)
theorem vals_get : ∀ {xs : List V} {vs : List Value} {i : Nat} {x : V}, Vals xs vs → xs[i]? = some x → ∃ v, vs[i]? = some v ∧ RelV x v
  | [], _, _, _, r, h => by simp at h
  | y :: xs, _, 0, x, r, h => by
    cases r with
    | cons r1 r2 =>
      cases h
      exact ⟨_, rfl, r1⟩
  | y :: xs, _, i + 1, x, r, h => by
    cases r with
    | cons r1 r2 => exact vals_get (i := i) r2 h
theorem pick_vals {xs : List V} {vs : List Value} (r : Vals xs vs) (f : List Nat) : Vals (f.filterMap (xs[·]?)) (f.filterMap (vs[·]?)) := by
  induction f with
  | nil => exact .nil
  | cons i f ih =>
    rw [List.filterMap_cons, List.filterMap_cons]
    cases h : xs[i]? with
    | none =>
      have : vs[i]? = none := by rw [List.getElem?_eq_none_iff] at h ⊢; rw [← r.length]; exact h
      rw [this]
      exact ih
    | some x =>
      obtain ⟨v, hv, rv⟩ := vals_get r h
      rw [hv]
      exact .cons rv ih
theorem pick_rpa {K : PySem.W.Frag} {F : Hp} {ds : List Dt} {xs : List V} (r : RpA K F xs ds) (f : List Nat) : RpA K F (f.filterMap (xs[·]?)) (f.filterMap (ds[·]?)) := by
  induction f with
  | nil => exact .nil
  | cons i f ih =>
    rw [List.filterMap_cons, List.filterMap_cons]
    cases h : ds[i]? with
    | none =>
      have : xs[i]? = none := by rw [List.getElem?_eq_none_iff] at h ⊢; rw [r.length]; exact h
      rw [this]
      exact ih
    | some d =>
      obtain ⟨x, hx, rx⟩ := r.get h
      rw [hx]
      exact .cons rx ih
def tSl3 (K : PySem.W.Frag) (te : TE) (tl th ts : TO) : TE := fun σ H Q => te σ H fun x H1 => tl σ H1 fun lo H2 => th σ H2 fun hi H3 => ts σ H3 fun st H4 => ∃ a xs, x = .ref a ∧ SqL K H4 a xs ∧ st ≠ some 0 ∧ ∀ p, H4 p = none → Q (.ref p) (upd H4 p (.lst (pickG xs lo hi st)))
theorem pe_slice3 {X : Cx} {e : Expr} {te : TE} {tl th ts : TO} {lo hi : Option Expr} {st : Expr} {p3 pos : Pos} (he : PE X e te) (hl : PO X lo tl) (hh : PO X hi th) (hst : PO X (some st) ts) : PE X (.Subscript e (.Slice lo hi (some st) p3) pos) (tSl3 X.K te tl th ts) := by
  refine ⟨fun pins s σ H Q I h => ?_⟩
  refine Subscript_ (thn (he.run pins s σ H _ I h) fun v s1 ⟨x, H1, I1, r1, q1⟩ => ?_)
  refine wpAny_Slice (thn (hl.run pins s1 σ H1 _ I1 q1) fun vl s2 ⟨l, H2, I2, pl, q2⟩ => ?_)
  refine thn (hh.run pins s2 σ H2 _ I2 q2) fun vu s3 ⟨u, H3, I3, pu, q3⟩ => ?_
  refine thn (hst.run pins s3 σ H3 _ I3 q3) fun vs s4 ⟨o, H4, I4, ps, q4⟩ => ?_
  obtain ⟨a, xs, ex, hx, h0, q⟩ := q4
  subst ex
  cases r1
  have I5 : Inv X pins σ H4 { s4 with heap := s4.heap.push { cls := .type "slice", data := .fields #[vl, vu, vs] } } := I4.kept (t' := s4.toks) fun b ob q => Heap.get?_push_of_some _ q
  obtain ⟨its, r, ht, hz⟩ := I5.list hx
  have hlen := r.length
  show wpAny (model X.prog X.w) X.A (subscriptTail e (.Slice lo hi (some st) p3) (.ref a) (.ref s4.heap.objs.size)) (EP X pins σ Q) X.xe { s4 with heap := s4.heap.push { cls := .type "slice", data := .fields #[vl, vu, vs] } }
  refine tail_any (ops := [.ref a, .ref s4.heap.objs.size]) ht.isList.typeIs (PySem.slot_list_getitem.lookup) ?_ (by with_unfolding_all rfl)
  refine wpAny_getItem_list_slice ht.isList (Heap.IsSliceOf.new _ vl vu vs) pl pu ps h0 ?_ (by rw [List.size_toArray]; omega)
  have hp : Vals (pickG xs l u o) (slicePick its.toArray l u o).toList := by
    unfold slicePick pickG
    rw [List.size_toArray, hlen]
    have := pick_vals r (sliceRange (sliceBounds l u o its.length).1 (sliceBounds l u o its.length).2.1 (sliceBounds l u o its.length).2.2)
    simpa using this
  have hz2 : (pickG xs l u o).length ≤ sizeLine := by
    rw [hp.length, Array.length_toList]
    exact Nat.le_trans (slicePick_size_le _ _ _ _) (by rw [List.size_toArray, ← hlen]; exact hz)
  refine ⟨.ref _, _, I5.laid (t' := s4.toks) (o := .lst (pickG xs l u o)) (fun b ob q => Heap.get?_push_of_some _ q) (Nat.le_refl _) ?_, rfl, q _ (I5.hok.fresh (Nat.le_refl _))⟩
  exact ⟨hz2, _, 0, hp, Heap.get?_push_size _ rfl⟩
section
variable {ι : Type} {X : ι → Cx} {k : Nat} {P : Program} {w : World} {K : PySem.W.Frag} {mg : Str → Option Value} {base : Heap} {W : WX} {e a b c : Expr} {es : List Expr} {pos p : Pos}
def fSl3 : Dt → Option Int → Option Int → Option Int → Option Dt := fun d lo hi st => match d with
  | .list ds => if st ≠ some 0 then some (.list (pickG ds lo hi st)) else none
  | _ => none
def mSl3 (m : SS → EO Opd) (l h t : SS → EO (Option Int)) : SS → EO Dt := fun ss => (m ss).bind fun o ss => (l ss).bind fun lo ss => (h ss).bind fun hi ss => (t ss).bind fun st ss => .lift ((o.get ss).bind fun d => fSl3 d lo hi st) ss
theorem o_slice3 (C : VC X k P w K mg base W) {lo hi : Option Expr} {st : Expr} {p2 : Pos} {m : SS → EO Opd} {l h t : SS → EO (Option Int)} (hm : VB X K mg W a m) (hl : VP X K mg W lo l) (hh : VP X K mg W hi h) (ht : VP X K mg W (some st) t) : VO X K mg W (.Subscript a (.Slice lo hi (some st) p2) pos) (mSl3 m l h t) := by
  obtain ⟨te, a1, a2⟩ := hm.ex
  obtain ⟨tl, b1, b2⟩ := hl.ex
  obtain ⟨th, c1, c2⟩ := hh.ex
  obtain ⟨ts, d1, d2⟩ := ht.ex
  refine ⟨tSl3 K te tl th ts, fun i => by rw [← C.eK i]; exact pe_slice3 (a1 i) (b1 i) (c1 i) (d1 i), fun k ω ss σ H Q hk rs q => a2 ω ss σ H _ rs ?_⟩
  refine seqE (R2 := NewR K H k) q fun o ss1 ω1 H1 x _ rs1 fr1 rp1 q1 => b2 ω1 ss1 σ H1 _ rs1 ?_
  refine seqE (R2 := NewR K H k) q1 fun lo' ss2 ω2 H2 y _ rs2 fr2 ey q2 => c2 ω2 ss2 σ H2 _ rs2 ?_
  refine seqE (R2 := NewR K H k) q2 fun hi' ss3 ω3 H3 y3 _ rs3 fr3 ey3 q3 => d2 ω3 ss3 σ H3 _ rs3 ?_
  refine seqE (R2 := NewR K H k) q3 fun st' ss4 ω4 H4 y4 _ rs4 fr4 ey4 q4 => ?_
  subst ey ey3 ey4
  obtain ⟨z, hz, q4⟩ := lift_get q4
  obtain ⟨d, e1, e3⟩ := Option.bind_eq_some_iff.mp hz
  have bx := Opd.bor rs4 (((rp1.go fr2).go fr3).go fr4) e1
  unfold fSl3 at e3
  split at e3
  · rename_i ds0
    split at e3
    · rename_i h0
      cases e3
      obtain ⟨pa, ys, rfl, h1, h2⟩ := bor_lst bx
      refine ⟨pa, ys, rfl, .of h1, h0, fun p hp => ?_⟩
      obtain ⟨ω5, w1, rs5, fr5, hs5⟩ := rs4.new (o := .lst (pickG ys y y3 y4)) hk hp
      have rp : RpA K (hid ω4 H4) (pickG ys y y3 y4) (pickG ds0 y y3 y4) := by
        unfold pickG
        rw [h2.length]
        exact pick_rpa h2 _
      refine q4 ω5 _ _ rs5 fr5 ⟨p, rfl, ?_, w1, .inl ⟨_, _, rfl, upd_same, RpA.mono hs5 _ _ rp⟩⟩
      exact fr1.tr p (fr2.tr p (fr3.tr p (fr4.tr p hp)))
    · cases e3
  · cases e3
def pairD (p : Dt × Dt) : Dt := .tuple [p.1, p.2]
def fItems : Dt → Option Dt := fun d => match d with
  | .dict ds => if isK ds = true then some (.list (ds.map pairD)) else none
  | _ => none
def mLItems (m : SS → EO Opd) : SS → EO Dt := fun ss => (m ss).bind fun o ss => .lift ((o.get ss).bind fItems) ss
theorem items_rpa {K : PySem.W.Frag} {F G : Hp} : ∀ {ds : List (Dt × Dt)} {kvs : List (Key × V)} {ts : List Addr}, Same F G → RpK K F kvs ds → Paired (fun (t : Addr) (q : Key × V) => G t = some (.tup [kV q.1, q.2])) ts kvs → RpA K G (ts.map V.ref) (ds.map pairD)
  | [], _, _, _, h, p => by cases h; cases p; exact .nil
  | (kd, d) :: ds, _, _, sm, h, p => by
    cases h with
    | @cons j x kvs _ _ h1 h2 =>
      cases p with
      | cons p1 p2 =>
        refine .cons ?_ (items_rpa sm h2 p2)
        refine .tup (.of p1) (.cons ?_ (.cons (Rp.mono sm _ _ h1) .nil))
        cases j with
        | inl i => exact .int i
        | inr z => exact .str z
theorem o_listItems (C : VC X k P w K mg base W) {apos cpos : Pos} {m : SS → EO Opd} (hm : VB X K mg W e m) (hg : ∀ i, Gl (X i) "list") (hml : mg "list" = none) (hbase : ∀ i, attributeBase e "items" (X i).env (eval e (X i).env) = eval e (X i).env := by intro _; rfl) (hline : (apos.endLine == cpos.line) = true := by rfl)
    (hs : ∀ i, starEach [.Call (.Attribute e "items" apos) [] [] cpos] (X i).env = (false, eval (.Call (.Attribute e "items" apos) [] [] cpos) (X i).env) :: starEach [] (X i).env := by intro _; rfl) :
    VO X K mg W (.Call (.Name "list" p) [.Call (.Attribute e "items" apos) [] [] cpos] [] pos) (mLItems m) := by
  obtain ⟨t, a1, a2⟩ := hm.ex
  refine ⟨LiI.tListItems t, fun i => LiI.pe_listItems (C.ca i) (a1 i) (hg i) (by rw [C.em i]; exact hml) PyProof.Rows.boot_list (hbase i) hline (hs i), fun k ω ss σ H Q hk rs q => a2 ω ss σ H _ rs ?_⟩
  refine seqE (R2 := NewR K H k) q fun o ss1 ω1 H1 x _ rs1 fr1 rp1 q1 => ?_
  obtain ⟨z, hz, q1⟩ := lift_get q1
  obtain ⟨d, e1, e2⟩ := Option.bind_eq_some_iff.mp hz
  have bx := Opd.bor rs1 rp1 e1
  unfold fItems at e2
  split at e2
  · rename_i ds
    split at e2
    · rename_i hK
      cases e2
      have hd : ∃ a kvs, x = .ref a ∧ H1 a = some (.dK kvs) ∧ RpK K (hid ω1 H1) kvs ds := by
        rcases bor_dict bx (.inl hK) with h | ⟨a, xs, rfl, h1, hn, h2⟩
        · exact h
        · rw [h2.isK hn] at hK; cases hK
      obtain ⟨a, kvs, rfl, h1, h2⟩ := hd
      refine ⟨a, kvs, rfl, h1, fun H' p ts sm hp hts hpt hl hpair => ?_⟩
      obtain ⟨G, eG⟩ : ∃ G : Hp, G = fun b => if b = p then none else H' b := ⟨_, rfl⟩
      have sG : Same H1 G := fun b u hb => by
        rw [eG]
        have : b ≠ p := fun e => by rw [e, hp] at hb; cases hb
        simp only [if_neg this]
        exact sm b u hb
      have hGp : G p = none := by rw [eG]; exact if_pos rfl
      have hu : upd G p (.lst (ts.map V.ref)) = H' := by
        funext b
        by_cases hb : b = p
        · subst hb; rw [upd_same, hl]
        · rw [upd_ne hb, eG]; exact if_neg hb
      have rsG := rs1.grow sG
      obtain ⟨ω2, w1, rs2, fr2, hs2⟩ := rsG.new (o := .lst (ts.map V.ref)) hk hGp
      rw [hu] at rs2 fr2 hs2
      have fG : Frm ω1 H1 ω1 G := .grow sG rs1.own
      have hpG : Paired (fun (t : Addr) (q : Key × V) => hid ω1 G t = some (.tup [kV q.1, q.2])) ts kvs := by
        have key : ∀ {ts : List Addr} {kvs : List (Key × V)}, Paired (fun (t : Addr) (q : Key × V) => H' t = some (.tup [kV q.1, q.2])) ts kvs → (∀ t ∈ ts, H1 t = none) → p ∉ ts → Paired (fun (t : Addr) (q : Key × V) => hid ω1 G t = some (.tup [kV q.1, q.2])) ts kvs := by
          intro ts kvs h
          induction h with
          | nil => intro _ _; exact .nil
          | @cons t q ts kvs h1 _ ih =>
            intro g1 g2
            refine .cons ?_ (ih (fun t ht => g1 t (List.mem_cons_of_mem _ ht)) fun h => g2 (List.mem_cons_of_mem _ h))
            have ht : t ≠ p := fun e => g2 (by rw [e]; exact List.mem_cons_self ..)
            rw [hid_of (rs1.free (g1 t (List.mem_cons_self ..))), eG]
            simp only [if_neg ht]
            exact h1
        exact key hpair hts hpt
      have rp : RpA K (hid ω1 G) (ts.map V.ref) (ds.map pairD) := items_rpa (hid_same sG) h2 hpG
      exact q1 ω2 _ _ rs2 (fG.trans fr2) ⟨p, rfl, fr1.tr p hp, w1, .inl ⟨_, _, rfl, hl, RpA.mono hs2 _ _ rp⟩⟩
    · cases e2
  · cases e2
def pairsD : List Dt → Option (List (Dt × Dt))
  | [] => some []
  | .tuple [k, d] :: ds => if key1 k = true then (pairsD ds).map ((k, d) :: ·) else none
  | _ :: _ => none
theorem pairs_rp {K : PySem.W.Frag} {F H : Hp} (sm : Same F H) : ∀ {ds : List Dt} {xs : List V} {ps : List (Dt × Dt)}, RpA K F xs ds → pairsD ds = some ps → ∃ (as : List Addr) (kvs : List (Key × V)), xs = as.map V.ref ∧ Paired (fun p kv => SqT K H p [kV kv.1, kv.2]) as kvs ∧ RpK K F kvs ps
  | [], _, _, h, e => by cases h; cases e; exact ⟨[], [], rfl, .nil, .nil⟩
  | d0 :: ds, _, _, h, e => by
    cases h with
    | cons h1 h2 =>
      unfold pairsD at e
      split at e
      · rename_i e0
        cases e0
      · rename_i kd d ds' e0
        cases e0
        split at e
        · rename_i hk
          obtain ⟨ps, e1, rfl⟩ := Option.map_eq_some_iff.mp e
          obtain ⟨as, kvs, rfl, i1, i2⟩ := pairs_rp sm h2 e1
          cases h1 with
          | tup hs ha =>
            cases ha with
            | cons g1 g2 =>
              cases g2 with
              | cons g3 g4 =>
                cases g4
                rename_i x0 x1
                obtain ⟨j, rfl, rfl⟩ : ∃ j : Key, kd = keyD j ∧ x0 = kV j := by
                  cases kd with
                  | int i => cases g1; exact ⟨.inl i, rfl, rfl⟩
                  | str z => cases g1; exact ⟨.inr z, rfl, rfl⟩
                  | _ => cases hk
                exact ⟨_ :: as, (j, _) :: kvs, rfl, .cons (sqT_mono sm hs) i1, .cons g3 i2⟩
        · cases e
      · cases e
def fDictP : List Dt → Option (List (Dt × Dt))
  | [.list ds] => (pairsD ds).map (mergeD [])
  | _ => none
def mOuK (f : List Dt → Option (List (Dt × Dt))) (m : SS → EO (List Opd)) : SS → EO Dt := fun ss => (m ss).bind fun os ss => .lift (((opsGet ss os).bind f).map .dict) ss
theorem o_dictP (C : VC X k P w K mg base W) {m : SS → EO (List Opd)} (ha : VBs X K mg W [e] m) (hg : ∀ i, Gl (X i) "dict") (hm : mg "dict" = none)
    (he : ∀ i, starEach [e] (X i).env = (false, eval e (X i).env) :: starEach [] (X i).env := by intro _; rfl) (hpl : ∀ i, (backTo pos (starEach [] (X i).env)).any (·.1) = false := by intro _; rfl) : VO X K mg W (.Call (.Name "dict" p) [e] [] pos) (mOuK fDictP m) := by
  obtain ⟨t, b1, b2⟩ := ha.ex
  refine ⟨_, fun i => pe_callTy (by have := call_dictP (X := X i) (C.ca i); rw [C.eK i] at this; exact this) (hg i) (by rw [C.em i]; exact hm) PyProof.Rows.boot_dict (b1 i) (by decide) (by decide) (he i) (hpl i), fun k ω ss σ H Q hk rs q => b2 ω ss σ H _ rs ?_⟩
  refine seqE (R2 := NewR K H k) q fun os ss1 ω1 H1 xs _ rs1 fr1 rp1 q1 => ?_
  obtain ⟨z, hz, q1⟩ := lift_get q1
  obtain ⟨zs, hz2, rfl⟩ := Option.map_eq_some_iff.mp hz
  obtain ⟨ds, h1, h2⟩ := Option.bind_eq_some_iff.mp hz2
  have bx := OpdA.bor rs1 rp1 h1
  unfold fDictP at h2
  split at h2
  · rename_i ds'
    obtain ⟨ps, e1, rfl⟩ := Option.map_eq_some_iff.mp h2
    obtain ⟨x, rfl, b1⟩ := bor1 bx
    obtain ⟨a, ys, rfl, g1, g2⟩ := bor_lst b1
    obtain ⟨as, kvs, rfl, i1, i2⟩ := pairs_rp (hid_le) g2 e1
    refine ⟨a, as, kvs, rfl, .of g1, i1, fun p hp => ?_⟩
    obtain ⟨ω2, w1, rs2, fr2, hs2⟩ := rs1.new (o := .dK (mergeK [] kvs)) hk hp
    exact q1 ω2 _ _ rs2 fr2 ⟨p, rfl, fr1.tr p hp, w1, .inr (.inl ⟨_, _, rfl, upd_same, RpK.mono hs2 _ _ (rpk_merge i2 .nil)⟩)⟩
  · cases h2
end
end VL

namespace VL
open PySem PySem.Spec L2
open PyProof.Rows hiding St
variable [WW]
def tw1 {α : Type} (us ws : List α) : List α := match us, ws with
  | [s], [u] => [s, u]
  | _, _ => []
section
variable {K : PySem.W.Frag} {x qn : Str} {st : Stmt}
theorem kbm1 {f : Addr} {fd : FuncData} {o q : Str} (F : Fun K x qn st f fd) (h : ∀ (kV doc pm : Value) (an : Option Addr) (cdv ct s u : Value), bindArgs (PySem.W.fnOf x qn (defArgs st) (defBody st) (defScope st) .none kV doc pm an cdv ct) ⟨[s], [(q, u)]⟩ = pure [(o, s), (q, u)]) : KBinds K fd [o, q] [q] tw1 tw1 := by
  obtain ⟨oc, od, kV, doc, pm, an, cdv, ct, osl, rfl, lk, hcd⟩ := F.ex
  refine ⟨fun s us ws _ hl => ?_, fun r1 r2 => ?_⟩
  · match us, ws, hl with
    | [s0], [u], _ => exact .of_eq (h kV doc pm an cdv ct s0 u)
  · cases r1 with
    | nil => exact .nil
    | cons a r1 =>
      cases r1 with
      | cons a2 r1 => exact .nil
      | nil =>
        cases r2 with
        | nil => exact .nil
        | cons b r2 =>
          cases r2 with
          | nil => exact .cons a (.cons b .nil)
          | cons c r2 => exact .nil
theorem pmm1 : ∀ (F : Hp) (v : V) (d : Dt) (vs : List V) (ds : List Dt), Rp K F v d → RpA K F vs ds → ds.length = 1 → (tw1 [v] vs).length = 2 ∧ RpA K F (tw1 [v] vs) (tw1 [d] ds) := fun F v d vs ds h0 h l => by
  cases h with
  | nil => cases l
  | cons h1 h2 =>
    cases h2 with
    | nil => exact ⟨rfl, .cons h0 (.one h1)⟩
    | cons h2 h3 => simp at l
end
theorem nt_Sl3 {m : SS → EO Opd} {l k t : SS → EO (Option Int)} (h : Nt m) (g : Nt l) (f : Nt k) (e : Nt t) : Nt (mSl3 m l k t) := nt_bind h fun o => nt_bind g fun lo => nt_bind f fun hi => nt_bind e fun st => nt_liftg fun a ss => by rw [get_re]
theorem nt_LItems {m : SS → EO Opd} (h : Nt m) : Nt (mLItems m) := nt_bind h fun o => nt_liftg fun a ss => by rw [get_re]
theorem nt_OuK {f : List Dt → Option (List (Dt × Dt))} {m : SS → EO (List Opd)} (h : Nt m) : Nt (mOuK f m) := nt_bind h fun os => nt_liftg fun a ss => by rw [ops_re]
section
variable {S S1 S2 S3 S4 : SS}
theorem e_Sl3 {m : SS → EO Opd} {l k t : SS → EO (Option Int)} {o : Opd} {lo hi st : Option Int} {d z : Dt} (h : m S = .ok o S1) (hl : l S1 = .ok lo S2) (hk : k S2 = .ok hi S3) (ht : t S3 = .ok st S4) (g : o.get S4 = some d) (e : fSl3 d lo hi st = some z) : mSl3 m l k t S = .ok z S4 := by
  unfold mSl3; rw [h]; simp only [EO.bind, hl, hk, ht, g, Option.bind, e, EO.lift]
theorem e_LItems {m : SS → EO Opd} {o : Opd} {d z : Dt} (h : m S = .ok o S1) (g : o.get S1 = some d) (e : fItems d = some z) : mLItems m S = .ok z S1 := by
  unfold mLItems; rw [h]; simp only [EO.bind, g, Option.bind, e, EO.lift]
theorem e_OuK {f : List Dt → Option (List (Dt × Dt))} {m : SS → EO (List Opd)} {os : List Opd} {ds : List Dt} {d : List (Dt × Dt)} (h : m S = .ok os S1) (g : opsGet S1 os = some ds) (t : f ds = some d) : mOuK f m S = .ok (.dict d) S1 := by
  unfold mOuK; rw [h]; simp only [EO.bind, g, Option.bind, t, EO.lift, Option.map]
theorem dc_enc {β : Type} {vs : List Nat} {g : Dt → SS → Option SS} {mt : SS → EO Bool} {mk mv : SS → EO Dt} {s0 : SS} {enc : β → Dt} {s1 : β → SS} {p : β → Bool} {fk fv : β → Dt} (hg : ∀ b, g (enc b) s0 = some (s1 b)) (hw : ∀ b, wipeS (s1 b) vs = s0) : ∀ (items : List β) (acc : List (Dt × Dt)),
    (∀ b ∈ items, mt (s1 b) = .ok (p b) (s1 b)) → (∀ b ∈ items, p b = true → mk (s1 b) = .ok (fk b) (s1 b)) → (∀ b ∈ items, p b = true → mv (s1 b) = .ok (fv b) (s1 b)) → (∀ b ∈ items, key1 (fk b) = true) → acc.length + items.length ≤ sizeLine →
    dcGo vs g mt mk mv (items.map enc) s0 acc = .ok (mergeD acc ((items.filter p).map fun b => (fk b, fv b))) s0
  | [], acc, _, _, _, _, _ => rfl
  | b :: items, acc, ht, hk, hv, h1, hl => by
    have m := List.mem_cons_self (a := b) (l := items)
    have r : ∀ e ∈ items, e ∈ b :: items := fun e h => List.mem_cons_of_mem _ h
    rw [List.length_cons] at hl
    rw [List.map_cons, dcGo, hg b]
    dsimp only
    rw [ht b m]
    dsimp only [EO.calm, EO.bind]
    cases hp : p b with
    | false =>
      rw [if_neg (by decide), hw b, dc_enc hg hw items acc (fun e h => ht e (r e h)) (fun e h => hk e (r e h)) (fun e h => hv e (r e h)) (fun e h => h1 e (r e h)) (by omega), List.filter_cons_of_neg (by rw [hp]; decide)]
    | true =>
      rw [if_pos rfl, hk b m hp]
      dsimp only [EO.calm, EO.bind]
      rw [hv b m hp]
      dsimp only [EO.calm, EO.bind]
      rw [if_pos ⟨h1 b m, by omega⟩, hw b, dc_enc hg hw items _ (fun e h => ht e (r e h)) (fun e h => hk e (r e h)) (fun e h => hv e (r e h)) (fun e h => h1 e (r e h)) (by
        have : (putD acc (fk b) (fv b)).length ≤ acc.length + 1 := by
          unfold putD
          split
          · rw [List.length_map]; omega
          · rw [List.length_append]; simp
        omega), List.filter_cons_of_pos (by rw [hp])]
      rfl
theorem e_Dc {β : Type} {m : SS → EO (List Dt)} {vs : List Nat} {g : Dt → SS → Option SS} {mt : SS → EO Bool} {mk mv : SS → EO Dt} {s0 : SS} {enc : β → Dt} {s1 : β → SS} {p : β → Bool} {fk fv : β → Dt} {items : List β} {qs : List (Dt × Dt)} (hi : m S = .ok (items.map enc) S1) (h0 : wipeS S1 vs = s0) (hg : ∀ b, g (enc b) s0 = some (s1 b))
    (ht : ∀ b ∈ items, mt (s1 b) = .ok (p b) (s1 b)) (hk : ∀ b ∈ items, p b = true → mk (s1 b) = .ok (fk b) (s1 b)) (hv : ∀ b ∈ items, p b = true → mv (s1 b) = .ok (fv b) (s1 b)) (hr : restS S1 s0 vs = S2) (h1 : ∀ b ∈ items, key1 (fk b) = true) (hl : items.length ≤ sizeLine) (hw : ∀ b, wipeS (s1 b) vs = s0) (hq : mergeD [] ((items.filter p).map fun b => (fk b, fv b)) = qs) :
    mDc m vs g mt mk mv S = .ok (.dict qs) S2 := by
  unfold mDc
  rw [hi]
  simp only [EO.bind, h0]
  rw [dc_enc hg hw items [] ht hk hv h1 (by simpa using hl)]
  simp [hr, hq]
end
theorem mergeD_new : ∀ (ps acc : List (Dt × Dt)), (ps.map (·.1)).Nodup → (∀ p ∈ ps, ∀ q ∈ acc, q.1 ≠ p.1) → mergeD acc ps = acc ++ ps
  | [], acc, _, _ => by simp [mergeD]
  | p :: ps, acc, hn, hd => by
    rw [List.map_cons, List.nodup_cons] at hn
    have e : putD acc p.1 p.2 = acc ++ [p] := by
      unfold putD
      rw [if_neg]
      intro h
      obtain ⟨q, hq, e⟩ := List.any_eq_true.mp h
      exact hd p (List.mem_cons_self ..) q hq (of_decide_eq_true e)
    show mergeD (putD acc p.1 p.2) ps = _
    rw [e, mergeD_new ps (acc ++ [p]) hn.2 (fun q hq r hr => by
      rcases List.mem_append.mp hr with hr | hr
      · exact hd q (List.mem_cons_of_mem _ hq) r hr
      · rw [List.mem_singleton] at hr
        subst hr
        intro e
        exact hn.1 (List.mem_map.mpr ⟨q, hq, e.symm⟩))]
    simp
theorem q_sumI {α : Type} {f : α → Int} {l : List α} : fSumI [.list (l.map fun x => (.int (f x) : Dt))] = some (.int (l.map f).sum) := by
  have : intsD (l.map fun x => (.int (f x) : Dt)) = some (l.map f) := by
    induction l with
    | nil => rfl
    | cons a l ih => rw [List.map_cons, intsD, ih]; rfl
  rw [fSumI, this]
  rfl
open Classical in
noncomputable def tellsB (b : List Nat) (mv : List Mv) (e : List Nat) (x y : Str) : Bool := decide (Tells b mv e x y)
open Classical in
theorem tellsB_iff {b : List Nat} {mv : List Mv} {e : List Nat} {x y : Str} : tellsB b mv e x y = true ↔ Tells b mv e x y := by
  unfold tellsB
  exact decide_eq_true_iff
theorem eitherB {n1 : Nat} {b1 e1 b2 e2 : List Nat} {mv1 mv2 : List Mv} (P : PcOk n1 b1 mv1 e1) {x y : Str} : tellsB (b1 ++ shN n1 b2) (mv1 ++ mv2.map (mvS n1)) (e1 ++ shN n1 e2) x y = (tellsB b1 mv1 e1 x y || tellsB b2 mv2 e2 x y) := by
  rw [Bool.eq_iff_iff, tellsB_iff, tells_either P.hb.lt P.he.lt (fun m hm => ⟨(P.hm m hm).1, (P.hm m hm).2.1⟩), Bool.or_eq_true, tellsB_iff, tellsB_iff]
theorem turnB {b e : List Nat} {mv : List Mv} {x y : Str} : tellsB b (mv.map mvT) e y x = tellsB b mv e x y := by
  rw [Bool.eq_iff_iff, tellsB_iff, tells_turn, tellsB_iff]
theorem backB {b e : List Nat} {mv : List Mv} {x y : Str} : tellsB e (mv.map mvB) b (rvS x) (rvS y) = tellsB b mv e x y := by
  rw [Bool.eq_iff_iff, tellsB_iff, tells_back, tellsB_iff]
structure Sml (n : Nat) (b : List Nat) (mv : List Mv) (e : List Nat) : Prop where
  P : PcOk n b mv e
  n : n ≤ 4
  l : mv.length ≤ 8
  k : ∀ m ∈ mv, m.u.length ≤ 2 ∧ m.v.length ≤ 2
theorem PlanOk.sml {top many n : Nat} {b e : List Nat} {mv : List Mv} (P : PlanOk top many 2 n b mv e) (ht : top ≤ 4) (hm : many ≤ 8) : Sml n b mv e where
  P := P.pc (by omega) (by omega) (by omega)
  n := by have := P.2.1; omega
  l := by have := P.2.2.2.2.1; omega
  k := fun m hm => ⟨abW_len (P.2.2.2.2.2 m hm).u, abW_len (P.2.2.2.2.2 m hm).v⟩
theorem letW_txt {z : Str} (h : letW z = true) : letW (rvS z) = true := by
  unfold letW at *
  rw [Bool.and_eq_true] at *
  refine ⟨?_, ?_⟩
  · rw [rvS_cps, List.all_reverse]
    exact h.1
  · have : (rvS z).length = z.length := by unfold rvS; rw [txt_len, List.length_reverse, len_cps]
    rw [this]
    exact h.2
theorem rvS_len (z : Str) : (rvS z).length = z.length := by unfold rvS; rw [txt_len, List.length_reverse, len_cps]
theorem Sml.turn {n : Nat} {b e : List Nat} {mv : List Mv} (M : Sml n b mv e) : Sml n b (mv.map mvT) e where
  P := ⟨M.P.n1, M.P.hb, M.P.he, fun m hm => by
    obtain ⟨m', hm', rfl⟩ := List.mem_map.mp hm
    have := M.P.hm m' hm'
    exact ⟨this.1, this.2.1, this.2.2.2, this.2.2.1⟩, by rw [List.length_map]; exact M.P.l⟩
  n := M.n
  l := by rw [List.length_map]; exact M.l
  k := fun m hm => by
    obtain ⟨m', hm', rfl⟩ := List.mem_map.mp hm
    exact ⟨(M.k m' hm').2, (M.k m' hm').1⟩
theorem Sml.back {n : Nat} {b e : List Nat} {mv : List Mv} (M : Sml n b mv e) : Sml n e (mv.map mvB) b where
  P := ⟨M.P.n1, M.P.he, M.P.hb, fun m hm => by
    obtain ⟨m', hm', rfl⟩ := List.mem_map.mp hm
    have := M.P.hm m' hm'
    exact ⟨this.2.1, this.1, letW_txt this.2.2.1, letW_txt this.2.2.2⟩, by rw [List.length_map]; exact M.P.l⟩
  n := M.n
  l := by rw [List.length_map]; exact M.l
  k := fun m hm => by
    obtain ⟨m', hm', rfl⟩ := List.mem_map.mp hm
    show (rvS m'.u).length ≤ 2 ∧ (rvS m'.v).length ≤ 2
    rw [rvS_len, rvS_len]
    exact M.k m' hm'
theorem q_rev {z : Str} (h : z.length ≤ 1000) : fRev (.str z) = some (.str (rvS z)) := by
  have e : revS z = rvS z := by
    unfold revS rvS txt
    have e1 : Builtin.Str.strSliceIndices none none (-1) z.length = sliceRange ((z.cps.size : Int) - 1) (-1) (-1) := rfl
    rw [e1, PySem.W.krv_sliceRange, PySem.W.krv_range, List.filterMap_reverse, PySem.W.krv_all]
  unfold fRev
  dsimp only
  rw [e, if_pos (by rw [rvS_len]; exact sl1000 h)]
theorem q_about {n : Nat} {b e : List Nat} {mv : List Mv} (v : Dt) : fDictP [.list (([(.str "wide", .int (n : Nat)), (.str "in", natsD b), (.str "ways", .list (mv.map mvD)), (.str "out", natsD e)] : List (Dt × Dt)).map pairD ++ [.tuple [.str "ways", v]])] = some [(.str "wide", .int (n : Nat)), (.str "in", natsD b), (.str "ways", v), (.str "out", natsD e)] := by
  have n1 : (PyData.str "wide" = PyData.str "in") = False := by simp; decide
  have n2 : (PyData.str "wide" = PyData.str "ways") = False := by simp; decide
  have n3 : (PyData.str "wide" = PyData.str "out") = False := by simp; decide
  have n4 : (PyData.str "in" = PyData.str "ways") = False := by simp; decide
  have n5 : (PyData.str "in" = PyData.str "out") = False := by simp; decide
  have n6 : (PyData.str "ways" = PyData.str "out") = False := by simp; decide
  have n7 : (PyData.str "out" = PyData.str "ways") = False := by simp; decide
  simp only [fDictP, List.map_cons, List.map_nil, pairD, List.cons_append, List.nil_append, pairsD, key1, if_true, Option.map, mergeD, List.foldl_cons, List.foldl_nil, putD, List.any_nil, List.any_cons, n1, n2, n3, n4, n5, n6, n7, decide_true, decide_false, Bool.or_false, Bool.or_true, Bool.false_or, Bool.true_or, Bool.false_eq_true, if_false, if_true]
theorem q_items {n : Nat} {b e : List Nat} {mv : List Mv} : fItems (wD n b mv e) = some (.list (([(.str "wide", .int (n : Nat)), (.str "in", natsD b), (.str "ways", .list (mv.map mvD)), (.str "out", natsD e)] : List (Dt × Dt)).map pairD)) := rfl
end VL

namespace VL
open PySem PySem.Spec L2
open PyProof.Rows hiding St
variable [WW]
/-- the object of a set just made -/
def set0 (w : World) : Obj := { cls := .type "set", dict := none, data := .set #[] 0 (.fresh 0 0 (!w.params.followText "set-order")) }
section
variable {P : Program} {w : World} {A : Around} {E : Value → Shared → Prop} {s : Shared}
set_option maxRecDepth 100000 in
set_option maxHeartbeats 3200000 in
theorem set_listI {l : Addr} {vs : Array Value} (zs : List Int) {Q : Value → Shared → Prop} (hH : A.handled = none) (hL : s.heap.IsList l vs) (hZ : IntsAre vs.toList zs) (hB : zs.length + 1 < scanBound)
    (h : ∀ (g : Heap) (tk c : Nat), SetR w g s.heap.objs.size (fun j => decide (j ∈ zs)) c → c ≤ zs.length → (∀ b o, s.heap.get? b = some o → g.get? b = some o) → Q (.ref s.heap.objs.size) { s with heap := g, toks := tk }) :
    wpAny (model P w) A (PySem.call (.type "set") [.ref l]) Q E s := by
  have zsz : vs.size = zs.length := by
    have q := IntsAre.length hZ
    rw [Array.length_toList] at q
    exact q
  obtain ⟨cM, tM, hmro⟩ := F.called_set.mro
  have m1 := F.called_set.made
  have m2 := F.called_set.sub
  refine wpAny_call (codeAny_of_tree ?_)
  show wpAny _ _ (callAny (.type "set") _) _ _ _
  refine wpAny_pure ⟨(Code.quiet_builtin _ (by decide +kernel)), (codeAny_builtin F.entry_type_call ?_)⟩
  rw [(Around.under_plain (weight_type_call_type "set" [.ref l] []) rfl)]
  have m3 := F.called_set.notType
  have m4 := F.called_set.canCreate
  have m5 := F.typeCall_set_1 (.ref l)
  repeat (any_goals (first | assumption | wp_step))
  refine codeAny_mono (code_set_led1 (.ref l) (E := E) (Q₁ := fun ob s₁ => ob = .ref s.heap.objs.size ∧ s₁ = { s with heap := s.heap.push (set0 w) }) ⟨rfl, rfl⟩) fun r s₁ hr => ?_
  cases r with
  | error e => exact hr
  | ok fl =>
    cases fl with
    | ret ob =>
      obtain ⟨rfl, rfl⟩ := hr
      have hS : (s.heap.push (set0 w)).get? s.heap.objs.size = some (set0 w) := Heap.get?_push_size _ rfl
      have hT : Shared.TypeIs { s with heap := s.heap.push (set0 w) } (.ref s.heap.objs.size) "set" := ⟨_, hS, rfl⟩
      have m6 := F.called_set.init.lookup
      have m7 := F.called_set.init.bind (.ref s.heap.objs.size)
      repeat (any_goals (first | assumption | wp_step))
      refine codeAny_mono (codeAny_call_builtin (R := wants (fun r s₂ => r = .none ∧ ∃ g tk c, s₂ = { s with heap := g, toks := tk } ∧ SetR w g s.heap.objs.size (fun j => decide (j ∈ zs)) c ∧ c ≤ zs.length ∧
          (∀ b o, s.heap.get? b = some o → g.get? b = some o)) E) F.called_set.init.plain F.entry_set_init (check_set_init_1 hT ?_)) fun r₂ s₂ hr₂ => ?_
      · obtain ⟨ol, hol, hcl, nl, hdl⟩ := hL
        obtain ⟨ocls, odict, odata, oslots⟩ := ol
        simp only at hcl hdl
        subst hcl; subst hdl
        have ho1 : (s.heap.push (set0 w)).get? l = some { cls := .type "list", dict := odict, data := .seq vs nl, slots := oslots } := Heap.get?_push_of_some _ hol
        have n1 := F.sub_list_set
        have n2 := F.sub_list_frozenset
        have n3 : (Value.type "list" == Value.type "dict") = false := by decide
        have hl1 : (s.heap.push (set0 w)).IsList l vs := ⟨_, ho1, rfl, nl, rfl⟩
        have hl0 : s.heap.IsList l vs := ⟨_, hol, rfl, nl, rfl⟩
        unfold Builtin.«set.__init__» noKeywords Builtin.Frozenset.updateFrom
        generalize hPI : pyIter = PI
        wp_walk
        subst hPI
        refine wpAny_pyIter_list hl1 ?_
        refine wpAny_bind (wpAny_runValue ?_)
        have lS : l < s.heap.objs.size := Heap.lt_size hol
        have h3 : A.in1.in1.in1.handled = none := by simp [hH]
        have neI : l ≠ (s.heap.push (set0 w)).objs.size := by
          rw [Heap.size_push]; exact (Nat.ne_of_lt (Nat.lt_succ_of_lt lS))
        have Sf : s.heap.objs.size ∉ [(s.heap.push (set0 w)).objs.size, l] := by
          rw [Heap.size_push]
          intro z
          rcases List.mem_cons.mp z with z | z
          · exact absurd z (Nat.ne_of_lt (Nat.lt_succ_self _))
          · exact absurd (List.mem_singleton.mp z) (Nat.ne_of_gt lS)
        have at_ : ∀ (i : Nat) (v : Value), vs[i]? = some v → ∃ k t, zs[i]? = some k ∧ v = .int k t := fun i v hv => by
          have hi : i < zs.length := by rw [← zsz]; exact (Array.getElem?_eq_some_iff.mp hv).1
          obtain ⟨t, e⟩ := PyProof.Rows.IntsAre.int_at hZ i v (by rw [Array.getElem?_toList]; exact hv)
          refine ⟨zs[i], t, List.getElem?_eq_getElem hi, ?_⟩
          rw [e, List.getD_eq_getElem?_getD, List.getElem?_eq_getElem hi]
          rfl
        refine set_update_ints ((Walks.list h3 _ l neI vs).toS) s.heap.objs.size Sf zs zsz hB at_ (vs.size - 0) 0 _ (by omega) (Nat.zero_le _) ⟨⟨_, Heap.get?_push_size _ rfl, rfl, rfl⟩, (hl1.push _)⟩ ?a1 ?a2
        case a1 =>
          exact ⟨0, Nat.le_refl 0, setR_new_at (Heap.get?_push_of_some _ hS)⟩
        case a2 =>
          intro s' c' hm hc' hS'
          obtain ⟨g, g2, d', tk', os'⟩ := s'
          have e1 : g2 = s.gens := hm.gens
          have e2 : d' = s.drawn := hm.drawn
          have e3 : os' = s.os := hm.os
          subst e1 e2 e3
          show wpAny _ _ _ _ _ _
          refine wpAny_pure ?_
          show wpAny _ _ (ret Value.none) _ _ _
          rw [zsz] at hc'
          refine wpAny_pure ⟨rfl, g, tk', c', rfl, hS', hc', fun b o e => ?_⟩
          have b0 : b < s.heap.objs.size := Heap.lt_size e
          have b2 : b ≠ (s.heap.push (set0 w)).objs.size := by
            rw [Heap.size_push]; exact (Nat.ne_of_lt (Nat.lt_succ_of_lt b0))
          refine hm.heap b o (fun z => ?_) (Heap.get?_push_of_some _ (Heap.get?_push_of_some _ e))
          rcases List.mem_cons.mp z with z | z
          · exact absurd z (Nat.ne_of_lt b0)
          · exact absurd (List.mem_singleton.mp z) b2
      · cases r₂ with
        | error e => exact hr₂
        | ok fl₂ =>
          cases fl₂ with
          | ret r =>
            obtain ⟨rfl, g, tk, c', rfl, hS', hc', hk'⟩ := hr₂
            repeat (any_goals (first | assumption | wp_step))
            exact h _ _ _ hS' hc' hk'
          | _ => exact hr₂.elim
    | _ => exact hr.elim
end
end VL

namespace VL
open PySem PySem.Spec L2
open PyProof.Rows hiding St
variable [WW]
def rSetI (K : PySem.W.Frag) (w : World) : List V → Hp → VK → Prop := fun xs H Q => ∃ (a : Addr) (ns : List Int), xs = [.ref a] ∧ SqL K H a (ns.map V.int) ∧ ns.length + 1 < scanBound ∧ ∀ p c, H p = none → c ≤ ns.length → Q (.ref p) (upd H p (SetO w p (fun j => decide (j ∈ ns)) c))
theorem cr_setI {X : Cx} (hc : X.calm = true) : CallR X (.type "set") (rSetI X.K X.w) := by
  intro pins s σ H xs us Q I r h
  obtain ⟨a, ns, rfl, hs, hb, q⟩ := h
  obtain ⟨its, rv, hl, _⟩ := I.list hs
  rw [Vals.ref1 r]
  refine set_listI ns (I.ok.hd hc) hl.isList (by simpa using rv.ints) hb fun g tk c R hcl hk => ?_
  exact ⟨.ref _, upd H s.heap.objs.size (SetO X.w s.heap.objs.size (fun j => decide (j ∈ ns)) c), I.laid (t' := tk) hk (Nat.le_refl _) (setO_new R), rfl, q _ c (I.hok.fresh (Nat.le_refl _)) hcl⟩
def insU (x : Int) : List Int → List Int
  | [] => [x]
  | y :: l => if x < y then x :: y :: l else if x = y then y :: l else y :: insU x l
def sortU (l : List Int) : List Int := l.foldr insU []
theorem insU_mem {x k : Int} : ∀ {l : List Int}, k ∈ insU x l ↔ k = x ∨ k ∈ l
  | [] => by simp [insU]
  | y :: l => by
    unfold insU
    by_cases h1 : x < y
    · rw [if_pos h1, List.mem_cons]
    · rw [if_neg h1]
      by_cases h2 : x = y
      · rw [if_pos h2]; subst h2; simp
      · rw [if_neg h2, List.mem_cons, insU_mem, List.mem_cons]
        constructor <;> rintro (h | h | h) <;> simp [h]
theorem insU_up {x : Int} : ∀ {l : List Int}, l.Pairwise (· < ·) → (insU x l).Pairwise (· < ·)
  | [], _ => by simp [insU]
  | y :: l, h => by
    rw [List.pairwise_cons] at h
    unfold insU
    by_cases h1 : x < y
    · rw [if_pos h1]
      refine List.pairwise_cons.mpr ⟨fun z hz => ?_, List.pairwise_cons.mpr h⟩
      rcases List.mem_cons.mp hz with rfl | hz
      · exact h1
      · exact Int.lt_trans h1 (h.1 z hz)
    · rw [if_neg h1]
      by_cases h2 : x = y
      · rw [if_pos h2]; exact List.pairwise_cons.mpr h
      · rw [if_neg h2]
        refine List.pairwise_cons.mpr ⟨fun z hz => ?_, insU_up h.2⟩
        rcases insU_mem.mp hz with rfl | hz
        · omega
        · exact h.1 z hz
theorem sortU_mem {k : Int} {l : List Int} : k ∈ sortU l ↔ k ∈ l := by
  unfold sortU
  induction l with
  | nil => simp
  | cons x l ih => rw [List.foldr_cons, insU_mem, ih, List.mem_cons]
theorem sortU_up (l : List Int) : (sortU l).Pairwise (· < ·) := by
  unfold sortU
  induction l with
  | nil => exact .nil
  | cons x l ih => rw [List.foldr_cons]; exact insU_up ih
theorem up_eq : ∀ {l m : List Int}, l.Pairwise (· < ·) → m.Pairwise (· < ·) → (∀ k, k ∈ l ↔ k ∈ m) → l = m
  | [], [], _, _, _ => rfl
  | [], y :: m, _, _, h => absurd ((h y).mpr (List.mem_cons_self ..)) List.not_mem_nil
  | x :: l, [], _, _, h => absurd ((h x).mp (List.mem_cons_self ..)) List.not_mem_nil
  | x :: l, y :: m, h1, h2, h => by
    rw [List.pairwise_cons] at h1 h2
    have e : x = y := by
      rcases List.mem_cons.mp ((h x).mp (List.mem_cons_self ..)) with e | e
      · exact e
      · rcases List.mem_cons.mp ((h y).mpr (List.mem_cons_self ..)) with e2 | e2
        · exact e2.symm
        · have := h1.1 y e2
          have := h2.1 x e
          omega
    subst e
    rw [up_eq h1.2 h2.2 fun k => ?_]
    constructor
    · intro hk
      rcases List.mem_cons.mp ((h k).mp (List.mem_cons_of_mem _ hk)) with rfl | q
      · exact absurd (h1.1 _ hk) (Int.lt_irrefl _)
      · exact q
    · intro hk
      rcases List.mem_cons.mp ((h k).mpr (List.mem_cons_of_mem _ hk)) with rfl | q
      · exact absurd (h2.1 _ hk) (Int.lt_irrefl _)
      · exact q
section
variable {ι : Type} {X : ι → Cx} {k : Nat} {P : Program} {w : World} {K : PySem.W.Frag} {mg : Str → Option Value} {base : Heap} {W : WX} {e a b c : Expr} {es : List Expr} {pos p p1 p2 pos2 : Pos}
def fSetSort : Dt → Option Dt := fun d => match d with
  | .list ds => (intsD ds).bind fun ns => if ns.length < 60 then some (.list ((sortU ns).map .int)) else none
  | _ => none
def mSetSort (m : SS → EO Opd) : SS → EO Dt := fun ss => (m ss).bind fun o ss => .lift ((o.get ss).bind fSetSort) ss
/-- sorted(set(e)) -/
theorem o_setSort (C : VC X k P w K mg base W) {m : SS → EO Opd} (hm : VB X K mg W e m) (g1 : ∀ i, Gl (X i) "sorted") (g2 : ∀ i, Gl (X i) "set") (m1 : mg "sorted" = none) (m2 : mg "set" = none)
    (he : ∀ i, starEach [e] (X i).env = (false, eval e (X i).env) :: starEach [] (X i).env := by intro _; rfl) (hpl : ∀ i, (backTo pos2 (starEach [] (X i).env)).any (·.1) = false := by intro _; rfl)
    (he2 : ∀ i, starEach [.Call (.Name "set" p2) [e] [] pos2] (X i).env = (false, eval (.Call (.Name "set" p2) [e] [] pos2) (X i).env) :: starEach [] (X i).env := by intro _; rfl) (hpl2 : ∀ i, (backTo pos (starEach [] (X i).env)).any (·.1) = false := by intro _; rfl) :
    VO X K mg W (.Call (.Name "sorted" p1) [.Call (.Name "set" p2) [e] [] pos2] [] pos) (mSetSort m) := by
  obtain ⟨t, b1, b2⟩ := hm.ex
  refine ⟨tCB (rSortedSet w) (tCons (tCB (rSetI K w) (tCons t tNil)) tNil), fun i => pe_callB (by have := cr_sortedSet (X := X i) (C.ca i); rw [C.ew i] at this; exact this) (g1 i) (by rw [C.em i]; exact m1) (show bootBuiltins "sorted" = some (.builtin "sorted") by decide +kernel) (pa_cons (pe_callTy (by have := cr_setI (X := X i) (C.ca i); rw [C.eK i, C.ew i] at this; exact this) (g2 i) (by rw [C.em i]; exact m2) (show bootBuiltins "set" = some (.type "set") by decide +kernel) (pa_cons (b1 i) pa_nil (hs := he i)) (by decide) (by decide) (he i) (hpl i)) pa_nil (hs := he2 i)) (by decide) (by decide) (he2 i) (hpl2 i), fun k ω ss σ H Q hk rs q => ?_⟩
  refine b2 ω ss σ H _ rs ?_
  refine seqE (R2 := NewR K H k) q fun o ss1 ω1 H1 x _ rs1 fr1 rp1 q1 => ?_
  obtain ⟨z, hz, q1⟩ := lift_get q1
  obtain ⟨d, e1, e2⟩ := Option.bind_eq_some_iff.mp hz
  have bx := Opd.bor rs1 rp1 e1
  unfold fSetSort at e2
  split at e2
  · obtain ⟨ns, e3, e4⟩ := Option.bind_eq_some_iff.mp e2
    split at e4
    · rename_i hl
      cases e4
      obtain ⟨a, ys, rfl, h1, h2⟩ := bor_lst bx
      have := rpa_ints h2 e3
      subst this
      refine ⟨a, ns, rfl, .of h1, by have : scanBound = 4096 := rfl; omega, fun p c hp hc => ⟨p, _, c, rfl, upd_same, by omega, fun ns' p2 up mem len hp2 => ?_⟩⟩
      have e5 : ns' = sortU ns := up_eq up (sortU_up ns) fun k => by rw [mem k, sortU_mem]; simp
      subst e5
      have sG := same_upd (o := SetO w p (fun j => decide (j ∈ ns)) c) hp
      have rsG := rs1.grow sG
      have fG : Frm ω1 H1 ω1 (upd H1 p (SetO w p (fun j => decide (j ∈ ns)) c)) := .grow sG rs1.own
      obtain ⟨ω2, w1, rs2, fr2, hs2⟩ := rsG.new (o := .lst ((sortU ns).map V.int)) hk hp2
      refine q1 ω2 _ _ rs2 (fG.trans fr2) ⟨p2, rfl, fr1.tr p2 (fG.tr p2 hp2), w1, .inl ⟨_, _, rfl, upd_same, ?_⟩⟩
      have key : ∀ (F : Hp) (l : List Int), RpA K F (l.map V.int) (l.map fun i => (.int i : Dt)) := fun F l => by
        induction l with
        | nil => exact .nil
        | cons a l ih => exact .cons (.int a) ih
      exact key _ _
    · cases e4
  · cases e2
theorem nt_SetSort {m : SS → EO Opd} (h : Nt m) : Nt (mSetSort m) := nt_bind h fun o => nt_liftg fun a ss => by rw [get_re]
theorem e_SetSort {S S1 : SS} {m : SS → EO Opd} {o : Opd} {d z : Dt} (h : m S = .ok o S1) (g : o.get S1 = some d) (t : fSetSort d = some z) : mSetSort m S = .ok z S1 := by
  unfold mSetSort; rw [h]; simp only [EO.bind, g, Option.bind, t, EO.lift]
end
end VL

namespace VL
open PySem PySem.Spec L2
open PyProof.Rows hiding St
variable [WW]
/-- a dict of numbers, each with True -/
def dctI (l : List Nat) : List (Dt × Dt) := l.map fun s => (.int (s : Nat), .bool true)
theorem isK_dctI : ∀ l : List Nat, isK (dctI l) = true
  | [] => rfl
  | _ :: l => isK_dctI l
theorem int_inj {a b : Nat} (h : (PyData.int (a : Nat)) = .int (b : Nat)) : a = b := by
  injection h with h
  omega
theorem look_dctI (k : Nat) : ∀ l : List Nat, lookD (dctI l) (.int (k : Nat)) = if k ∈ l then some (.bool true) else none
  | [] => rfl
  | s :: l => by
    show lookD ((.int (s : Nat), .bool true) :: dctI l) _ = _
    rw [lookD_cons, look_dctI k l]
    by_cases h : s = k
    · subst h
      rw [if_pos rfl, if_pos (List.mem_cons_self ..)]
    · have : ¬ (PyData.int (s : Nat)) = .int (k : Nat) := fun e => h (int_inj e)
      simp only [this, if_false, List.mem_cons]
      by_cases hk : k ∈ l
      · rw [if_pos hk, if_pos (.inr hk)]
      · rw [if_neg hk, if_neg (by rintro (e | e); exact h e.symm; exact hk e)]
theorem fLook_dctI (k : Nat) (l : List Nat) : fLook (dctI l) (.int (k : Nat)) = some (if k ∈ l then some (.bool true) else none) := by
  unfold fLook
  rw [if_pos (by rw [Bool.and_eq_true]; exact ⟨rfl, isK_dctI l⟩), look_dctI]
theorem notIn_dctI (k : Nat) (l : List Nat) : fNotInA (.int (k : Nat)) (.dict (dctI l)) = some (!decide (k ∈ l)) := by
  show alt fNotIn (fInX true) _ _ = _
  have e1 : fNotIn (.int (k : Nat)) (.dict (dctI l)) = none := rfl
  unfold alt
  rw [e1]
  show (fLook (dctI l) (.int (k : Nat))).map _ = _
  rw [fLook_dctI]
  by_cases h : k ∈ l <;> simp [h]
theorem in_dctI (k : Nat) (l : List Nat) : fInA (.int (k : Nat)) (.dict (dctI l)) = some (decide (k ∈ l)) := by
  show alt fIn (fInX false) _ _ = _
  have e1 : fIn (.int (k : Nat)) (.dict (dctI l)) = none := rfl
  unfold alt
  rw [e1]
  show (fLook (dctI l) (.int (k : Nat))).map _ = _
  rw [fLook_dctI]
  by_cases h : k ∈ l <;> simp [h]
theorem any_dctI {k : Nat} {l : List Nat} : ((dctI l).any fun p => decide (p.1 = .int (k : Nat))) = decide (k ∈ l) := by
  rw [Bool.eq_iff_iff, List.any_eq_true, decide_eq_true_eq]
  constructor
  · rintro ⟨p, hp, e⟩
    obtain ⟨s, hs, rfl⟩ := List.mem_map.mp hp
    exact int_inj (of_decide_eq_true e) ▸ hs
  · intro h
    exact ⟨_, List.mem_map.mpr ⟨k, h, rfl⟩, decide_eq_true rfl⟩
theorem put_dctI {k : Nat} {l : List Nat} (h : k ∉ l) : putD (dctI l) (.int (k : Nat)) (.bool true) = dctI (l ++ [k]) := by
  unfold putD
  rw [any_dctI, decide_eq_false h, if_neg (by decide)]
  simp [dctI]
theorem dctI_nodup {l : List Nat} (h : l.Nodup) : ((dctI l).map (·.1)).Nodup := by
  unfold dctI
  rw [List.map_map]
  unfold List.Nodup at *
  rw [List.pairwise_map]
  exact h.imp fun {a b} hab e => hab (int_inj e)
theorem mg_dctI {l : List Nat} (h : l.Nodup) : mergeD [] ((l.filter fun _ => true).map fun b => (.int (b : Nat), .bool true)) = dctI l := by
  rw [List.filter_eq_self.mpr fun _ _ => rfl]
  show mergeD [] (dctI l) = _
  rw [mergeD_new (dctI l) [] (dctI_nodup h) (fun _ _ q hq => absurd hq List.not_mem_nil)]
  rfl
theorem dctI_len (l : List Nat) : (dctI l).length = l.length := by simp [dctI]
theorem inV_nats {s : Nat} {l : List Nat} : inV (toV (.int (s : Nat))) ((l.map fun t : Nat => (.int (t : Nat) : Dt)).map toV) = decide (s ∈ l) := by
  unfold inV
  rw [List.map_map, List.any_map, Bool.eq_iff_iff, List.any_eq_true, decide_eq_true_eq]
  constructor
  · rintro ⟨t, ht, h⟩
    have h : eqV (V.int (t : Int)) (V.int (s : Int)) = true := h
    simp [eqV] at h
    have : t = s := by omega
    exact this ▸ ht
  · intro h
    refine ⟨s, h, ?_⟩
    show eqV (V.int (s : Int)) (V.int (s : Int)) = true
    simp [eqV]
theorem inSeq_nats {neg : Bool} {s : Nat} {l : List Nat} {e : Dt} (he : seqD e = some (l.map fun t : Nat => (.int (t : Nat) : Dt))) : fInSeq neg (.int (s : Nat)) e = some (if neg then !decide (s ∈ l) else decide (s ∈ l)) := by
  have f : (l.map fun s : Nat => (.int s : Dt)).all flatD = true := by
    rw [List.all_map]
    exact List.all_eq_true.mpr fun _ _ => rfl
  unfold fInSeq
  rw [he]
  dsimp only
  rw [if_pos ⟨rfl, f⟩, inV_nats]
theorem in_listN (s : Nat) (l : List Nat) : fInA (.int (s : Nat)) (.list (l.map fun t : Nat => (.int (t : Nat) : Dt))) = some (decide (s ∈ l)) := by
  have e := inSeq_nats (neg := false) (s := s) (e := .list (l.map fun t : Nat => (.int (t : Nat) : Dt))) rfl
  have g : fIn (.int (s : Nat)) (.list (l.map fun t : Nat => (.int (t : Nat) : Dt))) = some (decide (s ∈ l)) := by
    show alt (fSign false) (alt (fInSeq false) _) _ _ = _
    unfold alt
    rw [show fSign false (.int (s : Nat)) (.list (l.map fun t : Nat => (.int (t : Nat) : Dt))) = none from rfl, e]
    rfl
  show alt fIn (fInX false) _ _ = _
  unfold alt
  rw [g]
theorem notIn_listN (s : Nat) (l : List Nat) : fNotInA (.int (s : Nat)) (.list (l.map fun t : Nat => (.int (t : Nat) : Dt))) = some (!decide (s ∈ l)) := by
  have e := inSeq_nats (neg := true) (s := s) (e := .list (l.map fun t : Nat => (.int (t : Nat) : Dt))) rfl
  have g : fNotIn (.int (s : Nat)) (.list (l.map fun t : Nat => (.int (t : Nat) : Dt))) = some (!decide (s ∈ l)) := by
    show alt (fSign true) (alt (fInSeq true) _) _ _ = _
    unfold alt
    rw [show fSign true (.int (s : Nat)) (.list (l.map fun t : Nat => (.int (t : Nat) : Dt))) = none from rfl, e]
    rfl
  show alt fNotIn (fInX true) _ _ = _
  unfold alt
  rw [g]
theorem notIn_nats (s : Nat) (l : List Nat) : fNotInA (.int (s : Nat)) (natsD l) = some (!decide (s ∈ l)) := by
  have e := inSeq_nats (neg := true) (s := s) (l := l) (e := natsD l) rfl
  have g : fNotIn (.int (s : Nat)) (natsD l) = some (!decide (s ∈ l)) := by
    show alt (fSign true) (alt (fInSeq true) _) _ _ = _
    unfold alt
    rw [show fSign true (.int (s : Nat)) (natsD l) = none from rfl, e]
    rfl
  show alt fNotIn (fInX true) _ _ = _
  unfold alt
  rw [g]
theorem intsD_N (l : List Nat) : intsD (l.map fun s : Nat => (.int (s : Nat) : Dt)) = some (l.map fun s : Nat => (s : Int)) := by
  induction l with
  | nil => rfl
  | cons a l ih => rw [List.map_cons, intsD, ih]; rfl
/-- ascending numbers, each once -/
def sortN (l : List Nat) : List Nat := (sortU (l.map fun s : Nat => (s : Int))).map Int.toNat
theorem sortN_int (l : List Nat) : (sortU (l.map fun s : Nat => (s : Int))).map (PyData.int ·) = (sortN l).map fun s : Nat => (.int (s : Nat) : Dt) := by
  unfold sortN
  rw [List.map_map]
  refine List.map_congr_left fun k hk => ?_
  obtain ⟨s, _, rfl⟩ := List.mem_map.mp (sortU_mem.mp hk)
  rfl
theorem sortN_mem {k : Nat} {l : List Nat} : k ∈ sortN l ↔ k ∈ l := by
  unfold sortN
  rw [List.mem_map]
  constructor
  · rintro ⟨z, hz, rfl⟩
    obtain ⟨s, hs, rfl⟩ := List.mem_map.mp (sortU_mem.mp hz)
    exact hs
  · intro h
    exact ⟨(k : Int), sortU_mem.mpr (List.mem_map.mpr ⟨k, h, rfl⟩), rfl⟩
theorem sortN_nodup (l : List Nat) : (sortN l).Nodup := by
  unfold sortN List.Nodup
  rw [List.pairwise_map]
  refine List.Pairwise.imp_of_mem (fun {a b} ha hb hab => ?_) (sortU_up (l.map fun s : Nat => (s : Int)))
  obtain ⟨s, _, rfl⟩ := List.mem_map.mp (sortU_mem.mp ha)
  obtain ⟨t, _, rfl⟩ := List.mem_map.mp (sortU_mem.mp hb)
  simp only [Int.toNat_natCast]
  omega
theorem q_setSort {l : List Nat} (h : l.length < 60) : fSetSort (.list (l.map fun s : Nat => (.int (s : Nat) : Dt))) = some (.list ((sortN l).map fun s : Nat => (.int (s : Nat) : Dt))) := by
  unfold fSetSort
  dsimp only
  rw [intsD_N]
  show (if (l.map fun s : Nat => (s : Int)).length < 60 then some (PyData.list ((sortU (l.map fun s : Nat => (s : Int))).map .int)) else none) = _
  rw [List.length_map, if_pos h, sortN_int]
theorem nodup_len : ∀ {n : Nat} {l : List Nat}, l.Nodup → (∀ s ∈ l, s < n) → l.length ≤ n
  | 0, [], _, _ => Nat.le_refl _
  | 0, s :: l, _, h => absurd (h s (List.mem_cons_self ..)) (Nat.not_lt_zero _)
  | n + 1, l, hd, h => by
    have h1 : (l.filter fun s => decide (s ≠ n)).length ≤ n := nodup_len (hd.filter _) fun s hs => by
      have := List.mem_filter.mp hs
      have h2 := h s this.1
      have h3 := of_decide_eq_true this.2
      omega
    have h2 : l.length ≤ (l.filter fun s => decide (s ≠ n)).length + 1 := by
      clear h h1
      induction l with
      | nil => simp
      | cons a l ih =>
        rw [List.nodup_cons] at hd
        by_cases ha : a = n
        · have e : (l.filter fun s => decide (s ≠ n)) = l := List.filter_eq_self.mpr fun s hs => decide_eq_true fun e => hd.1 (by rw [ha, ← e]; exact hs)
          rw [List.filter_cons_of_neg (by simp [ha]), e, List.length_cons]
          exact Nat.le_refl _
        · rw [List.filter_cons_of_pos (by simp [ha]), List.length_cons, List.length_cons]
          have := ih hd.2
          omega
    omega
theorem nodup_sub {α : Type} [DecidableEq α] : ∀ {l m : List α}, l.Nodup → (∀ s ∈ l, s ∈ m) → l.length ≤ m.length
  | [], _, _, _ => Nat.zero_le _
  | a :: l, m, hd, h => by
    rw [List.nodup_cons] at hd
    have h1 := nodup_sub (m := m.erase a) hd.2 fun s hs => by
      have : s ≠ a := fun e => hd.1 (e ▸ hs)
      exact (List.mem_erase_of_ne this).mpr (h s (List.mem_cons_of_mem _ hs))
    have ha := h a (List.mem_cons_self ..)
    rw [List.length_erase_of_mem ha] at h1
    have := List.length_pos_of_mem ha
    rw [List.length_cons]
    omega
theorem o_Fq {o : SO} {Q : Dt → Prop} (h : Wp o (fun _ => Q .none) (fun _ => False) (fun _ => False) (fun d' _ => Q d')) : ∃ d, outF o = .ok d ∧ Q d := by
  cases o with
  | nx s => exact ⟨.none, rfl, h.ok⟩
  | ct s => exact h.ok.elim
  | bk s => exact h.ok.elim
  | rt d' s => exact ⟨d', rfl, h.ok⟩
  | exc c fs s => exact h.ok.elim
  | no => exact h.ok.elim
theorem e_PopC {S S1 : SS} {i : Nat} {ds es : List Dt} {d : Dt} (h : S[i]? = some (some (.o (.list ds)))) (e : ds = es ++ [d]) (hs : S.set i (some (.o (.list es))) = S1) : mPop i S = .ok d S1 := by
  subst e
  exact e_Pop h (by simp) (by rw [List.dropLast_concat]; exact hs)
end VL

namespace VL
open PySem PySem.Spec L2
open PyProof.Rows hiding St
variable [WW]
section
variable {S S1 : SS} {N C B : SS → Prop} {T : Dt → SS → Prop} {s t : SS → SO} {β : Type} {m : SS → EO (List Dt)} {vs : List Nat} {g : Dt → SS → Option SS} {mt : SS → EO Bool} {me : SS → EO Dt} {enc : β → Dt} {items : List β}
theorem lc_rel (R : Nat → List Dt → SS → Prop) (hs : ∀ (k : Nat) (hk : k < items.length) acc ss, R k acc ss → ∃ ss1, g (enc items[k]) ss = some ss1 ∧ ∃ z ss2, mt ss1 = .ok z ss2 ∧ (z = true → ∃ d ss3, me ss2 = .ok d ss3 ∧ acc.length < sizeLine ∧ R (k + 1) (acc ++ [d]) (wipeS ss3 vs)) ∧ (z = false → R (k + 1) acc (wipeS ss2 vs))) :
    ∀ ss, R 0 [] ss → ∃ acc s', lcGo vs g mt me (items.map enc) ss [] = .ok acc s' ∧ R items.length acc s' := by
  have key : ∀ (j k : Nat) acc ss, k + j = items.length → R k acc ss → ∃ acc' s', lcGo vs g mt me ((items.drop k).map enc) ss acc = .ok acc' s' ∧ R items.length acc' s' := by
    intro j
    induction j with
    | zero =>
      intro k acc ss hk r
      rw [List.drop_of_length_le (by omega)]
      have : k = items.length := by omega
      subst this
      exact ⟨acc, ss, rfl, r⟩
    | succ j ih =>
      intro k acc ss hk r
      have hlt : k < items.length := by omega
      obtain ⟨ss1, e1, z, ss2, e2, h1, h2⟩ := hs k hlt acc ss r
      rw [List.drop_eq_getElem_cons hlt, List.map_cons, lcGo, e1]
      dsimp only
      rw [e2]
      dsimp only [EO.calm, EO.bind]
      cases z with
      | true =>
        rw [if_pos rfl]
        obtain ⟨d, ss3, e3, hl, r3⟩ := h1 rfl
        rw [e3]
        dsimp only [EO.calm, EO.bind]
        rw [if_pos hl]
        exact ih (k + 1) _ _ (by omega) r3
      | false =>
        rw [if_neg (by decide)]
        exact ih (k + 1) _ _ (by omega) (h2 rfl)
  exact fun ss r => key items.length 0 [] ss (by omega) r
theorem w_SeqTupLc {i : Nat} (R : Nat → List Dt → SS → Prop) (hi : m S = .ok (items.map enc) S1) (h0 : R 0 [] (wipeS S1 vs))
    (hs : ∀ (k : Nat) (hk : k < items.length) acc ss, R k acc ss → ∃ ss1, g (enc items[k]) ss = some ss1 ∧ ∃ z ss2, mt ss1 = .ok z ss2 ∧ (z = true → ∃ d ss3, me ss2 = .ok d ss3 ∧ acc.length < sizeLine ∧ R (k + 1) (acc ++ [d]) (wipeS ss3 vs)) ∧ (z = false → R (k + 1) acc (wipeS ss2 vs)))
    (hN : ∀ acc ss, R items.length acc ss → i < (restS S1 ss vs).length ∧ Wp (t ((restS S1 ss vs).set i (some (.v (.tuple acc))))) N C B T) : Wp (mSeq (mSet i (mFz (mBu fTup (mConsB (mB (mLc m vs g mt me)) mNilB)))) t S) N C B T := by
  obtain ⟨acc, ss, e, r⟩ := lc_rel (mt := mt) (me := me) R hs _ h0
  obtain ⟨hl, w⟩ := hN acc ss r
  refine w_Seq0 (e_Set (e_Fz (e_Bu (e_ConsB (e_B ?_) e_NilB) (g_os1 rfl g_os0) q_tupL)) hl rfl) w
  unfold mLc
  rw [hi]
  simp only [EO.bind, e]
theorem go_lc {A : Option SS} {S2 : SS} {n1 : SS → EO Bool} {P Q : Bool → SS → Prop} {z : Bool} (h : A = some S1) (h2 : n1 S1 = .ok z S2) (w1 : P z S2) (w2 : Q z S2) : ∃ ss1, A = some ss1 ∧ ∃ z ss2, n1 ss1 = .ok z ss2 ∧ P z ss2 ∧ Q z ss2 := ⟨_, h, _, _, h2, w1, w2⟩
theorem go_lc2 {A : EO Dt} {d : Dt} {P : Prop} {Q : Dt → SS → Prop} (h : A = .ok d S1) (p : P) (q : Q d S1) : ∃ d ss3, A = .ok d ss3 ∧ P ∧ Q d ss3 := ⟨_, _, h, p, q⟩
end
theorem q_join {α : Type} {z : Str} {f : α → Str} {l : List α} (h : ((l.map f).map (·.length)).sum + (l.map f).length * z.length ≤ 16777216) : fJoin [.str z, .list (l.map fun i => (.str (f i) : Dt))] = some (.str (Txt.join z (l.map f))) := by
  show (textsD (l.map fun i => (.str (f i) : Dt))).bind (joinD z) = _
  rw [texts_map]
  exact if_pos h
/-- a move by its index -/
def mvAt (mv : List Mv) (i : Nat) : Mv := (mv[i]?).getD ⟨0, "", "", 0⟩
theorem mvAt_mem {mv : List Mv} {i : Nat} (h : i < mv.length) : mvAt mv i ∈ mv := by
  unfold mvAt
  rw [List.getElem?_eq_getElem h]
  exact List.getElem_mem h
theorem atI_nat {α : Type} {xs : List α} {i : Nat} (h : i < xs.length) : atI xs (i : Int) = some xs[i] := by
  unfold atI
  rw [show ixN xs.length (i : Int) = some i from by
    unfold ixN
    rw [if_pos (by omega), if_pos (by omega)]
    simp]
  exact List.getElem?_eq_getElem h
theorem at_mvT {mv : List Mv} {i : Nat} (h : i < mv.length) : fIx (.tuple (mv.map mvD)) (.int (i : Nat)) = some (mvD (mvAt mv i)) := by
  show atI (mv.map mvD) (i : Int) = _
  rw [atI_nat (by rw [List.length_map]; exact h), List.getElem_map]
  unfold mvAt
  rw [List.getElem?_eq_getElem h]
  rfl
theorem at_mvL {mv : List Mv} {i : Nat} (h : i < mv.length) : fIx (.list (mv.map mvD)) (.int (i : Nat)) = some (mvD (mvAt mv i)) := at_mvT h
end VL

namespace VL
open PySem PySem.Spec L2
open PyProof.Rows hiding St
variable [WW]
/-- a deck that is a dict: its cells, a number by the name kk, the draws -/
def dkK (kk : Str) (a : Addr) (b c : Int) : HO := .dK [(.inr "cells", .ref a), (.inr kk, .int b), (.inr "draws", .int c)]
omit [WW] in
theorem dkK_n (kk : Str) (a : Addr) (b c : Int) (q : List Int) : dkK kk a b c ≠ .lst (q.map V.int) := by
  intro h
  unfold dkK at h
  cases h
structure KkOk (kk : Str) : Prop where
  c : kk ≠ "cells"
  d : kk ≠ "draws"
section
variable {kk : Str} {a : Addr} {b c n : Int}
theorem kk_cells : valV [((.inr "cells" : Key), V.ref a), (.inr kk, .int b), (.inr "draws", .int c)] (.inr "cells") = some (.ref a) := by
  simp [valV]
theorem kk_kk (h : KkOk kk) : valV [((.inr "cells" : Key), V.ref a), (.inr kk, .int b), (.inr "draws", .int c)] (.inr kk) = some (.int b) := by
  have := h.c
  simp [valV, Ne.symm this]
theorem kk_draws (h : KkOk kk) : valV [((.inr "cells" : Key), V.ref a), (.inr kk, .int b), (.inr "draws", .int c)] (.inr "draws") = some (.int c) := by
  have := h.d
  have n : ("cells" : Str) ≠ "draws" := by decide
  simp [valV, this, n]
theorem kk_put (h : KkOk kk) : putK [((.inr "cells" : Key), V.ref a), (.inr kk, .int b), (.inr "draws", .int c)] (.inr "draws") (.int n) = [((.inr "cells" : Key), V.ref a), (.inr kk, .int b), (.inr "draws", .int n)] := by
  have := h.d
  have n : ("cells" : Str) ≠ "draws" := by decide
  simp [putK, this, n]
theorem kk_merge (h : KkOk kk) : mergeK [] [((.inr "cells" : Key), V.ref a), (.inr kk, .int b), (.inr "draws", .int c)] = [((.inr "cells" : Key), V.ref a), (.inr kk, .int b), (.inr "draws", .int c)] := by
  have h1 := h.c
  have h2 := h.d
  have n : ("cells" : Str) ≠ "draws" := by decide
  simp [mergeK, putK, h1, h2, n, Ne.symm h1, Ne.symm h2]
end
section
variable {ι : Type} {X : ι → Cx} {k : Nat} {P : Program} {w : World} {K : PySem.W.Frag} {mg : Str → Option Value} {base : Heap} {W : WX} {a b e : Expr} {pos : Pos} {kk : Str}
theorem VC.u1 (C : VC X k P w K mg base W) (i : ι) : (X i).A.units + 1 < cLine := by have := (C.rm i).un; omega
/-- deck[kk] -/
theorem v_dkK1 (C : VC X k P w K mg base W) (hdk : WW.dk = dkK kk) (hk : KkOk kk) (i : Nat) {y : Str} {z : Nat} {p1 p2 : Pos} (hN : ∀ l, (X l).N[i]? = some y) (hv : ∀ l, Vis (X l).env.scope y) (hd : (y == ("__debug__" : Str)) = false := by decide) (hcd : (y == ("__classdict__" : Str)) = false := by decide) :
    VE X K mg W (.Subscript (.Name y p1) (.Constant (.str kk) z p2) pos) (mDkI i 1) := by
  refine ⟨tDGet (tVar i) (tC (.str kk)), fun l => pe_dget (C.u1 l) (pe_var (hN l) (hv l) hd hcd) pe_str (fun _ _ => rfl), fun ω ss σ H Q rs q => ?_⟩
  unfold mDkI at q
  split at q
  · rename_i a qq b c hk2
    obtain ⟨w1, w2, a2, w3, w4, w5, w6⟩ := rs.deck hk2
    rw [hdk] at w5
    unfold dkK at w5
    rw [if_pos rfl] at q
    refine ⟨_, w1, a, .int b, rfl, ?_, q ω H _ rs (.refl _ _) (.int _)⟩
    have g := DGet.k (k := .inr kk) w5
    rw [kk_kk hk] at g
    exact g
  · exact q.elim
/-- deck["draws"] -/
theorem v_dkK2 (C : VC X k P w K mg base W) (hdk : WW.dk = dkK kk) (hk : KkOk kk) (i : Nat) {y : Str} {z : Nat} {p1 p2 : Pos} (hN : ∀ l, (X l).N[i]? = some y) (hv : ∀ l, Vis (X l).env.scope y) (hd : (y == ("__debug__" : Str)) = false := by decide) (hcd : (y == ("__classdict__" : Str)) = false := by decide) :
    VE X K mg W (.Subscript (.Name y p1) (.Constant (.str "draws") z p2) pos) (mDkI i 2) := by
  refine ⟨tDGet (tVar i) (tC (.str "draws")), fun l => pe_dget (C.u1 l) (pe_var (hN l) (hv l) hd hcd) pe_str (fun _ _ => rfl), fun ω ss σ H Q rs q => ?_⟩
  unfold mDkI at q
  split at q
  · rename_i a qq b c hk2
    obtain ⟨w1, w2, a2, w3, w4, w5, w6⟩ := rs.deck hk2
    rw [hdk] at w5
    unfold dkK at w5
    rw [if_neg (by decide), if_pos rfl] at q
    refine ⟨_, w1, a, .int c, rfl, ?_, q ω H _ rs (.refl _ _) (.int _)⟩
    have g := DGet.k (k := .inr "draws") w5
    rw [kk_draws hk] at g
    exact g
  · exact q.elim
/-- deck["draws"] = e -/
theorem s_dkSetK (C : VC X k P w K mg base W) (hdk : WW.dk = dkK kk) (hk : KkOk kk) (i : Nat) {y : Str} {z : Nat} {p1 p2 p3 : Pos} {m : SS → EO Dt} (h : VE X K mg W e m) (hN : ∀ l, (X l).N[i]? = some y) (hv : ∀ l, Vis (X l).env.scope y) (hd : (y == ("__debug__" : Str)) = false := by decide) (hcd : (y == ("__classdict__" : Str)) = false := by decide)
    (hs : ∀ l, swapsWith e (some (.Subscript (.Name y p1) (.Constant (.str "draws") z p2) p3)) pos.line (X l).env = pure false := by intro _; rfl) :
    VS X K mg W (.Assign [.Subscript (.Name y p1) (.Constant (.str "draws") z p2) p3] e pos) (mDkSet i m) := by
  obtain ⟨t, a1, a2⟩ := h.ex
  refine ⟨_, fun l => ps_dput (C.u1 l) (pe_var (hN l) (hv l) hd hcd) pe_str (a1 l) (hs l), fun ω ss σ H D rs q => a2 ω ss σ H _ rs ?_⟩
  refine seqS q fun d ss1 ω1 H1 x _ rs1 fr1 rp1 q1 => ?_
  split at q1
  · rename_i n a qq b c hk2 _
    cases rp1
    obtain ⟨w1, w2, a3, w3, w4, w5, w6⟩ := rs1.deck hk2
    rw [hdk] at w5
    unfold dkK at w5
    have g := DPut.k (k := .inr "draws") (v := .int n) w5 (show 3 < sizeLine by decide)
    rw [kk_put hk] at g
    refine ⟨.ref a, w1, a, _, rfl, g, ?_⟩
    obtain ⟨m1, m2, m3⟩ := rs1.mut (o := .dK [(.inr "cells", .ref a3), (.inr kk, .int b), (.inr "draws", .int n)]) (s := .dk a qq b n) w2 w1 ⟨rfl, w2, a3, w3, by rw [hdk]; exact upd_same, by rw [upd_ne w4]; exact w6⟩
    exact q1 ω1 σ _ m1 m2
  · exact q1.elim
/-- deck["cells"] != [] -/
theorem t_dkNeK (C : VC X k P w K mg base W) (hdk : WW.dk = dkK kk) (hkk : KkOk kk) (i : Nat) {y : Str} {z : Nat} {p1 p2 p3 p4 : Pos} (hN : ∀ l, (X l).N[i]? = some y) (hv : ∀ l, Vis (X l).env.scope y) (hd : (y == ("__debug__" : Str)) = false := by decide) (hcd : (y == ("__classdict__" : Str)) = false := by decide) (hk : behindInMarks .NotEq (.List [] p4) = false := by rfl) :
    VT X K mg W (.Compare (.Subscript (.Name y p1) (.Constant (.str "cells") z p2) p3) [.NotEq] [.List [] p4] pos) (mDkNe i) := by
  refine ⟨tTest (tOp (rNeD K) (tDGet (tVar i) (tC (.str "cells"))) (tLst tNil)), fun l => by rw [← C.eK l]; exact pt_cmpR (op_neD (C.rm l).units) (pe_dget (C.u1 l) (pe_var (hN l) (hv l) hd hcd) pe_str (fun _ _ => rfl)) (pe_lst pa_nil) hk, fun ω ss σ H Q rs q => ?_⟩
  unfold mDkNe at q
  split at q
  · rename_i a qq b c hk2
    obtain ⟨w1, w2, a2, w3, w4, w5, w6⟩ := rs.deck hk2
    rw [hdk] at w5
    unfold dkK at w5
    have g := DGet.k (k := .inr "cells") w5
    rw [kk_cells] at g
    refine ⟨_, w1, a, .ref a2, rfl, g, by decide, fun p hp => ?_⟩
    have hs : Same H (upd H p (.lst [])) := same_upd hp
    have sh : SeqAt.shaped (.list []) = true := shaped_ints []
    refine ⟨.list (qq.map PyData.int), .list [], .lst (.of (hs _ _ w6)) (dp_ints qq), .lst (.of upd_same) .nil, shaped_ints qq, sh, ?_⟩
    have e : (!PyData.eqv (.list (qq.map PyData.int)) (.list [])) = !qq.isEmpty := by
      cases qq <;> simp [PyData.eqv, PyData.eqvAll]
    exact ⟨_, congrArg V.bl e, q ω _ _ (rs.grow hs) (.grow hs rs.own) rfl⟩
  · exact q.elim
/-- deck["cells"].pop() -/
theorem v_dkPopK (C : VC X k P w K mg base W) (hdk : WW.dk = dkK kk) (hkk : KkOk kk) (i : Nat) {y : Str} {z : Nat} {p1 p2 p3 ap : Pos} (hN : ∀ l, (X l).N[i]? = some y) (hv : ∀ l, Vis (X l).env.scope y) (hd : (y == ("__debug__" : Str)) = false := by decide) (hcd : (y == ("__classdict__" : Str)) = false := by decide)
    (hb : ∀ l, attributeBase (.Subscript (.Name y p1) (.Constant (.str "cells") z p2) p3) "pop" (X l).env (eval (.Subscript (.Name y p1) (.Constant (.str "cells") z p2) p3) (X l).env) = eval (.Subscript (.Name y p1) (.Constant (.str "cells") z p2) p3) (X l).env := by intro _; rfl) (hl : (ap.endLine == pos.line) = true := by rfl) :
    VE X K mg W (.Call (.Attribute (.Subscript (.Name y p1) (.Constant (.str "cells") z p2) p3) "pop" ap) [] [] pos) (mDkPop i) := by
  refine ⟨tBM0 K "list" rPop (tDGet (tVar i) (tC (.str "cells"))), fun l => by rw [← C.eK l]; exact pe_bm0 PySem.F.plainAttrs_list PySem.F.slot_list_pop PySem.F.type_list_pop (show MtR (X l) "list.pop" rPop from mt_pop) (pe_dget (C.u1 l) (pe_var (hN l) (hv l) hd hcd) pe_str (fun _ _ => rfl)) (hb l) hl, fun ω ss σ H Q rs q => ?_⟩
  unfold mDkPop at q
  split at q
  · rename_i a qq b c hk
    obtain ⟨w1, w2, a2, w3, w4, w5, w6⟩ := rs.deck hk
    rw [hdk] at w5
    unfold dkK at w5
    have g := DGet.k (k := .inr "cells") w5
    rw [kk_cells] at g
    split at q
    · rename_i v hv2
      refine ⟨_, w1, a, .ref a2, rfl, g, .inl ⟨rfl, _, .of w6⟩, a2, qq.map V.int, .int v, rfl, rfl, w6, ?_, ?_⟩
      · rw [List.length_map, List.getElem?_map]
        rw [List.getLast?_eq_getElem?] at hv2
        rw [hv2]
        rfl
      · have e2 : (qq.map V.int).dropLast = qq.dropLast.map V.int := by rw [List.map_dropLast]
        rw [e2]
        obtain ⟨m1, m2, m3⟩ := rs.mut (o := .lst (qq.dropLast.map V.int)) (s := .dk a qq.dropLast b c) w3 w1 ⟨rfl, w2, a2, w3, by rw [hdk, upd_ne w4.symm]; exact w5, upd_same⟩
        exact q ω _ _ m1 m2 (.int _)
    · exact q.elim
  · exact q.elim
/-- deck["cells"].append(u // v), names -/
theorem s_dkAppK (C : VC X k P w K mg base W) (hdk : WW.dk = dkK kk) (hkk : KkOk kk) (i ju jv : Nat) {y u v : Str} {z : Nat} {p1 p2 p3 ap p4 pu pv po : Pos} (hN : ∀ l, (X l).N[i]? = some y) (hv : ∀ l, Vis (X l).env.scope y) (hNu : ∀ l, (X l).N[ju]? = some u) (hvu : ∀ l, Vis (X l).env.scope u) (hNv : ∀ l, (X l).N[jv]? = some v) (hvv : ∀ l, Vis (X l).env.scope v)
    (hd : (y == ("__debug__" : Str)) = false := by decide) (hcd : (y == ("__classdict__" : Str)) = false := by decide) (hdu : (u == ("__debug__" : Str)) = false := by decide) (hcu : (u == ("__classdict__" : Str)) = false := by decide) (hdv : (v == ("__debug__" : Str)) = false := by decide) (hcv : (v == ("__classdict__" : Str)) = false := by decide)
    (hb : ∀ l, attributeBase (.Subscript (.Name y p1) (.Constant (.str "cells") z p2) p3) "append" (X l).env (eval (.Subscript (.Name y p1) (.Constant (.str "cells") z p2) p3) (X l).env) = eval (.Subscript (.Name y p1) (.Constant (.str "cells") z p2) p3) (X l).env := by intro _; rfl)
    (hf : ∀ l, ((backTo p4 (starEach ((.BinOp (.Name u pu) .FloorDiv (.Name v pv) po) :: []) (X l).env)).all (fun x => !x.1) && (backToKw p4 (keywordEach [] (X l).env)).all (fun x => x.1.isSome) && decide (((.BinOp (.Name u pu) .FloorDiv (.Name v pv) po : Expr) :: []).length + ([] : List Keyword).length + (if ([] : List Keyword).isEmpty then 0 else 1) < 30)) = true := by intro _; rfl)
    (hl : (ap.endLine == p4.line) = true := by rfl) (hst : ∀ l, starEach ((.BinOp (.Name u pu) .FloorDiv (.Name v pv) po) :: []) (X l).env = (false, eval (.BinOp (.Name u pu) .FloorDiv (.Name v pv) po) (X l).env) :: starEach [] (X l).env := by intro _; rfl) (hpl : ∀ l, (backTo p4 (starEach [] (X l).env)).any (·.1) = false := by intro _; rfl)
    (hsw : ∀ l, swapsWith (.Call (.Attribute (.Subscript (.Name y p1) (.Constant (.str "cells") z p2) p3) "append" ap) [.BinOp (.Name u pu) .FloorDiv (.Name v pv) po] [] p4) none pos.line (X l).env = pure false := by intro _; rfl) :
    VS X K mg W (.Expr (.Call (.Attribute (.Subscript (.Name y p1) (.Constant (.str "cells") z p2) p3) "append" ap) [.BinOp (.Name u pu) .FloorDiv (.Name v pv) po] [] p4) pos) (mDkApp i ju jv) := by
  refine ⟨tDrop (tBM K "list" rAppend (tDGet (tVar i) (tC (.str "cells"))) (tCons (tOp (rI (fun _ j => 0 < j ∧ j < 1073741824) fun i j => .int (i / j)) (tVar ju) (tVar jv)) tNil)), fun l => ps_expr (by
    rw [← C.eK l]
    exact pe_bm PySem.F.plainAttrs_list PySem.F.slot_list_append PySem.F.type_list_append (show MtR (X l) "list.append" rAppend from mt_append) (pe_dget (C.u1 l) (pe_var (hN l) (hv l) hd hcd) pe_str (fun _ _ => rfl)) (pa_cons (pe_op op_fdiv (pe_var (hNu l) (hvu l) hdu hcu) (pe_var (hNv l) (hvv l) hdv hcv)) pa_nil (hst l)) (hb l) (hf l) hl (hst l) (hpl l)) (hsw l), fun ω ss σ H D rs q => ?_⟩
  unfold mDkApp at q
  split at q
  · rename_i a qq b c n m hk hu hv2
    split at q
    · rename_i hc
      obtain ⟨w1, w2, a2, w3, w4, w5, w6⟩ := rs.deck hk
      rw [hdk] at w5
      unfold dkK at w5
      have g := DGet.k (k := .inr "cells") w5
      rw [kk_cells] at g
      obtain ⟨x1, g1, g2⟩ := rs.sl ju _ hu
      obtain ⟨x2, g3, g4⟩ := rs.sl jv _ hv2
      cases (show Rp K (hid ω H) x1 (.int n) from g2)
      cases (show Rp K (hid ω H) x2 (.int m) from g4)
      refine ⟨_, w1, a, .ref a2, rfl, g, .inl ⟨rfl, _, .of w6⟩, _, g1, _, g3, n, m, rfl, rfl, ⟨hc.1, hc.2.1⟩, a2, qq.map V.int, _, rfl, rfl, w6, by rw [List.length_map]; exact hc.2.2, ?_⟩
      have e2 : qq.map V.int ++ [V.int (n / m)] = (qq ++ [n / m]).map V.int := by simp
      rw [e2]
      obtain ⟨m1, m2, m3⟩ := rs.mut (o := .lst ((qq ++ [n / m]).map V.int)) (s := .dk a (qq ++ [n / m]) b c) w3 w1 ⟨rfl, w2, a2, w3, by rw [hdk, upd_ne w4.symm]; exact w5, upd_same⟩
      exact q ω σ _ m1 m2
    · exact q.elim
  · exact q.elim
end
end VL

namespace VL
open PySem PySem.Spec L2
open PyProof.Rows hiding St
variable [WW]
/-- behind a block that gives what is new -/
def SQO (K : PySem.W.Frag) (mg : Str → Option Value) (W : WX) (D : Ends) (ω : Om) (H : Hp) (o : SO) : Prop := match o with
  | .rt d ss' => ∀ ω' σ' H' x, RS K ω' ss' σ' H' → Frm ω H ω' H' → NewR K H 1000 ω' H' x d → D.rt x H'
  | .exc c fs ss' => ∀ ω' σ' H' cls dd, RS K ω' ss' σ' H' → Frm ω H ω' H' → XR K mg (hid ω' H') c fs cls dd → W cls dd σ' H'
  | _ => False
theorem SQO.shift {K : PySem.W.Frag} {mg : Str → Option Value} {W : WX} {D : Ends} {ω ω1 : Om} {H H1 : Hp} {o : SO} (h : SQO K mg W D ω H o) (fr : Frm ω H ω1 H1) : SQO K mg W D ω1 H1 o := by
  cases o with
  | rt d ss => exact fun ω' σ' H' x rs f ⟨a, h1, h2, h3⟩ => h ω' σ' H' x rs (fr.trans f) ⟨a, h1, fr.tr a h2, h3⟩
  | exc c fs ss => exact fun ω' σ' H' cls dd rs f xr => h ω' σ' H' cls dd rs (fr.trans f) xr
  | nx ss => exact h
  | bk ss => exact h
  | ct ss => exact h
  | no => exact h
structure VSsO {ι : Type} (X : ι → Cx) (K : PySem.W.Frag) (mg : Str → Option Value) (W : WX) (sts : List Stmt) (m : SS → SO) : Prop where
  ex : ∃ t : TS, (∀ i, PSs (X i) sts t) ∧ ∀ ω ss σ H D, RS K ω ss σ H → SQO K mg W D ω H (m ss) → t D σ H
/-- a statement that never returns -/
def NoRt (m : SS → SO) : Prop := ∀ ss d ss', m ss ≠ .rt d ss'
theorem st_noRt {α : Type} {x : EO α} {f : α → SS → SO} (h : ∀ a ss d ss', f a ss ≠ .rt d ss') (d : Dt) (ss' : SS) : x.st f ≠ .rt d ss' := by
  cases x with
  | ok a ss => exact h a ss d ss'
  | exc c fs ss => exact fun z => nomatch z
  | no => exact fun z => nomatch z
theorem nr_set {i : Nat} {m : SS → EO NV} : NoRt (mSet i m) := fun ss => st_noRt fun n ss d ss' z => by
  have z : (if i < ss.length then SO.nx (ss.set i (some n.sv)) else .no) = .rt d ss' := z
  split at z <;> cases z
theorem nr_forGo {g : Dt → SS → Option SS} {n : SS → SO} (h : NoRt n) : ∀ (items : List Dt) (ss : SS) (d : Dt) (ss' : SS), forGo g n items ss ≠ .rt d ss' := by
  intro items
  induction items with
  | nil => exact fun ss d ss' z => by unfold forGo at z; cases z
  | cons x r ih =>
    intro ss d ss' z
    unfold forGo at z
    cases hg : g x ss with
    | none => rw [hg] at z; cases z
    | some ss1 =>
      rw [hg] at z
      have z : (match n ss1 with | .nx ss2 => forGo g n r ss2 | .ct ss2 => forGo g n r ss2 | .bk ss2 => .nx ss2 | .rt d ss2 => .rt d ss2 | .exc c fs ss2 => .exc c fs ss2 | .no => .no) = SO.rt d ss' := z
      cases hn : n ss1 with
      | nx s2 => rw [hn] at z; exact ih _ _ _ z
      | ct s2 => rw [hn] at z; exact ih _ _ _ z
      | bk s2 => rw [hn] at z; cases z
      | rt d2 s2 => exact h _ _ _ hn
      | exc c fs s2 => rw [hn] at z; cases z
      | no => rw [hn] at z; cases z
theorem nr_for {m : SS → EO (List Dt)} {g : Dt → SS → Option SS} {n : SS → SO} (h : NoRt n) : NoRt (mFor m g n) := fun ss => st_noRt fun items ss d ss' => nr_forGo h items ss d ss'
theorem nr_seq {m n : SS → SO} (h : NoRt m) (g : NoRt n) : NoRt (mSeq m n) := fun ss d ss' z => by
  unfold mSeq at z
  split at z
  · exact g _ _ _ z
  · exact h _ _ _ z
theorem nr_nx : NoRt .nx := fun ss d ss' z => nomatch z
section
variable {ι : Type} {X : ι → Cx} {k : Nat} {P : Program} {w : World} {K : PySem.W.Frag} {mg : Str → Option Value} {base : Heap} {W : WX} {e a b c : Expr} {es : List Expr} {pos : Pos}
theorem ss_consO {st : Stmt} {r : List Stmt} {m n : SS → SO} (h : VS X K mg W st m) (nr : NoRt m) (nb : ∀ ss ss', m ss ≠ .bk ss' ∧ m ss ≠ .ct ss') (g : VSsO X K mg W r n) : VSsO X K mg W (st :: r) (mSeq m n) := by
  obtain ⟨t, h1, h2⟩ := h.ex
  obtain ⟨u, g1, g2⟩ := g.ex
  refine ⟨tSeq t u, fun i => pss_cons (h1 i) (g1 i), fun ω ss σ H D rs q => h2 ω ss σ H _ rs ?_⟩
  unfold mSeq at q
  cases hm : m ss with
  | nx ss' =>
    rw [hm] at q
    exact fun ω' σ' H' rs' fr => g2 ω' ss' σ' H' D rs' (SQO.shift q fr)
  | rt d ss' => exact absurd hm (nr _ _ _)
  | bk ss' => exact absurd hm (nb _ _).1
  | ct ss' => exact absurd hm (nb _ _).2
  | exc c fs ss' => rw [hm] at q; exact q
  | no => rw [hm] at q; exact q
theorem seqSO {α β : Type} {R : Om → Hp → β → α → Prop} {D : Ends} {ω : Om} {σ : St} {H : Hp} {r : EO α} {f : α → SS → SO} {Q : β → Hp → Prop} (h : SQO K mg W D ω H (r.st f))
    (k : ∀ d ss' ω' H' x, r = .ok d ss' → RS K ω' ss' σ H' → Frm ω H ω' H' → R ω' H' x d → SQO K mg W D ω H (f d ss') → Q x H') : EQg R K mg W ω σ H r Q := by
  cases r with
  | ok d ss => exact fun ω' H' x rs fr rp => k d ss ω' H' x rfl rs fr rp h
  | exc c fs ss => exact fun ω' H' cls dd rs f xr => h ω' σ H' cls dd rs f xr
  | no => exact h
theorem ss_retO {m : SS → EO Dt} (h : VO X K mg W e m) : VSsO X K mg W [.Return (some e) pos] (mRet m) := by
  obtain ⟨t, h1, h2⟩ := h.ex
  refine ⟨_, fun i => pss_one (ps_ret (h1 i)), fun ω ss σ H D rs q => h2 1000 ω ss σ H _ (Nat.le_refl _) rs ?_⟩
  exact seqSO q fun d ss1 ω1 H1 x _ rs1 fr1 rp1 q1 => q1 ω1 σ H1 x rs1 fr1 rp1
end
/-- a def's promise: what it gives is new and nobody's else -/
def spDO (K : PySem.W.Frag) (n : Nat) (f : Dk → List Dt → Res (Dt × Dk)) : List V → Hp → VK → XK → Prop := fun vs H Q _ => ∃ (F : Hp) (a a2 : Addr) (q : List Int) (b c : Int) (vr : List V) (ds : List Dt), vs = .ref a :: vr ∧ vr.length + 1 = n ∧ Same F H ∧ F a = none ∧ F a2 = none ∧
  H a = some (WW.dk a2 b c) ∧ H a2 = some (.lst (q.map V.int)) ∧ RpA K F vr ds ∧ match f (q, b, c) ds with
  | .ok (d, (q', b', c')) => ∀ (F' H' : Hp) (p : Addr) (a3 : Addr), Same F F' → Same F' H' → F' a = none → F' a3 = none → (∀ y o, H y = some o → y ≠ a → y ≠ a2 → H' y = some o ∧ (F y = none → F' y = none ∧ y ≠ a3)) → (∀ y, H' y = none → H y = none) →
      H' a = some (WW.dk a3 b' c') → H' a3 = some (.lst (q'.map V.int)) → H p = none → F' p = none → p ≠ a → p ≠ a3 → OwC K F' p (H' p) d → Q (.ref p) H'
  | _ => False
section
variable {P : Program} {w : World} {K : PySem.W.Frag} {mg : Str → Option Value} {base : Heap} {k : Nat} {f : Addr} {fd : FuncData} {N ps : List Str} {x qual : Str} {st : Stmt}
theorem fn_deckO {m : SS → SO} {g : Dk → List Dt → Res (Dt × Dk)} (hw : w = WW.w) (F : Fun K x qual st f fd) (S : FnScope N ps (defScope st)) (hN : N.length ≤ 1000)
    (body : ∀ (cdv : Value) (A : Around) (outer : List Env) (s : Shared) (H : Hp) (E : XK), VC (fX P w K mg base N qual (defScope st) f cdv A outer s H E) k P w K mg base (WX0 E) → VSsO (fX P w K mg base N qual (defScope st) f cdv A outer s H E) K mg (WX0 E) (defBody st) m)
    (hg : ∀ a dk ds, ds.length + 1 = ps.length → outD a (m (startD a N dk ds)) = g dk ds ∨ g dk ds = .no) (hnx : ∀ ss ss', m ss ≠ .nx ss') :
    FnG P w K mg base (k + 1) f fd ps (spDO K ps.length g) := by
  refine FnG.of F S (fun vs H Q E z => ?_) fun cdv A outer s H vs Q E hr hgd hsp => ?_
  · obtain ⟨_, _, _, _, _, _, _, _, rfl, h, _⟩ := z
    exact h
  · obtain ⟨F0, a, a2, q, b, c, vr, ds, rfl, hl, hF, ha, ha2, hHa, hHa2, rp, hq⟩ := hsp
    obtain ⟨t, t1, t2⟩ := (body cdv A outer s H E (VC.fn hw S.nd hr hgd)).ex
    have lds : ds.length + 1 = ps.length := by rw [← rp.length]; exact hl
    have hpl : ps.length ≤ N.length := by
      have := congrArg List.length S.pre
      rw [List.length_take] at this
      omega
    have hid0 := hid_om0 hF ha ha2
    have la : om0 F0 H a a2 a = some 0 := if_pos (.inl rfl)
    have la2 : om0 F0 H a a2 a2 = some 0 := if_pos (.inr rfl)
    refine ⟨t, t1 (), t2 (om0 F0 H a a2) (startD a N (q, b, c) ds) (L2.start N (.ref a :: vr)) H _ ⟨?_, ?_, fun y j hy => ?_, fun i sv hi => ?_⟩ ?_⟩
    · unfold startD L2.start
      simp only [List.length_append, List.length_map, List.length_replicate, List.length_cons, rp.length]
      omega
    · unfold L2.start
      simp only [List.length_append, List.length_map, List.length_replicate, List.length_cons]
      omega
    · unfold om0 at hy
      split at hy
      · rename_i hc
        rcases hc with rfl | rfl
        · rw [hHa]; rfl
        · rw [hHa2]; rfl
      · split at hy
        · rename_i hc
          exact Option.isSome_iff_ne_none.mpr hc.2
        · cases hy
    · cases i with
      | zero =>
        have e : SV.dk a q b c = sv := by
          have z : some (some (SV.dk a q b c)) = some (some sv) := hi
          cases z
          rfl
        subst e
        exact ⟨.ref a, rfl, rfl, la, a2, la2, hHa, hHa2⟩
      | succ i =>
        have hi : (ds.map (fun d => some (SV.v d)) ++ List.replicate (N.length - (ds.length + 1)) none)[i]? = some (some sv) := hi
        by_cases hlt : i < ds.length
        · rw [List.getElem?_append_left (by simpa using hlt), List.getElem?_map, List.getElem?_eq_getElem hlt] at hi
          cases hi
          obtain ⟨v, h2, h3⟩ := rp.get (List.getElem?_eq_getElem hlt)
          refine ⟨v, start_get (show (V.ref a :: vr)[i + 1]? = some v from h2), ?_⟩
          show Rp K (hid (om0 F0 H a a2) H) v _
          rw [hid0]
          exact h3
        · rw [List.getElem?_append_right (by simpa using hlt), List.getElem?_replicate] at hi
          split at hi <;> cases hi
    · have fin : ∀ {d : Dt} {ss' : SS} {q' : List Int} {b' c' : Int} {ω' : Om} {σ' : St} {H' : Hp} {v : V}, dkAt a ss' = some (q', b', c') → g (q, b, c) ds = .ok (d, (q', b', c')) → RS K ω' ss' σ' H' → Frm (om0 F0 H a a2) H ω' H' → NewR K H 1000 ω' H' v d → Q v H' := by
        intro d ss' q' b' c' ω' σ' H' v h1 h2 rs fr rv
        rw [h2] at hq
        obtain ⟨x0, _, rfl, e1, a3, e2, e3, e4⟩ := rs.sl 0 _ (dkAt_at h1)
        have fz := fr.fz
        rw [hid0] at fz
        obtain ⟨p, rfl, p1, p2, p3⟩ := rv
        refine hq (hid ω' H') H' p a3 fz hid_le (by unfold hid; rw [e1]) (by unfold hid; rw [e2]) (fun y o hy n1 n2 => ?_) fr.tr e3 e4 p1 (by unfold hid; rw [p2]) (fun z => by rw [z, e1] at p2; cases p2) (fun z => by rw [z, e2] at p2; cases p2) p3
        cases hFy : F0 y with
        | some o' =>
          have := hF y o' hFy
          rw [hy] at this
          cases this
          exact ⟨hid_le _ _ (fz y o hFy), fun z => nomatch z⟩
        | none =>
          have lab : om0 F0 H a a2 y = some 1000000 := by
            unfold om0
            rw [if_neg (fun z => z.elim n1 n2), if_pos ⟨hFy, by rw [hy]; exact fun z => nomatch z⟩]
          obtain ⟨g1, g2⟩ := fr.tp y 1000000 (by decide) lab
          refine ⟨g2.trans hy, fun _ => ⟨by unfold hid; rw [g1], fun z => ?_⟩⟩
          rw [z, e2] at g1
          cases g1
      have hg := hg a (q, b, c) ds lds
      cases hm : m (startD a N (q, b, c) ds) with
      | rt d ss' =>
        rw [hm] at hg
        intro ω' σ' H' v rs fr rv
        simp only [outD] at hg
        split at hg
        · rename_i dk h1
          rcases hg with hg | hg
          · exact fin h1 hg.symm rs fr rv
          · rw [hg] at hq; exact hq.elim
        · have hg : g (q, b, c) ds = .no := hg.elim (fun z => z.symm) id
          rw [hg] at hq
          exact hq.elim
      | nx ss' => exact absurd hm (hnx _ _)
      | exc cc fs ss' =>
        rw [hm] at hg
        have hg : g (q, b, c) ds = .no := hg.elim (fun z => z.symm) id
        rw [hg] at hq
        exact hq.elim
      | bk ss' =>
        rw [hm] at hg
        have hg : g (q, b, c) ds = .no := hg.elim (fun z => z.symm) id
        rw [hg] at hq
        exact hq.elim
      | ct ss' =>
        rw [hm] at hg
        have hg : g (q, b, c) ds = .no := hg.elim (fun z => z.symm) id
        rw [hg] at hq
        exact hq.elim
      | no =>
        rw [hm] at hg
        have hg : g (q, b, c) ds = .no := hg.elim (fun z => z.symm) id
        rw [hg] at hq
        exact hq.elim
/-- a def that draws and gives what is new -/
theorem go_deckO {m : SS → SO} {n : Nat} {g : Dk → List Dt → Res (Dt × Dk)} (hw : w = WW.w) (D : Df K mg x st ps) (S : FnScope N ps (defScope st)) (hN : N.length ≤ 1000) (en : ps.length = n) (e : ∀ a dk ds, ds.length + 1 = n → outD a (m (startD a N dk ds)) = g dk ds ∨ g dk ds = .no) (hnx : ∀ ss ss', m ss ≠ .nx ss')
    (body : ∀ (f : Addr) (cdv : Value) (A : Around) (outer : List Env) (s : Shared) (H : Hp) (E : XK), VC (fX P w K mg base N x (defScope st) f cdv A outer s H E) k P w K mg base (WX0 E) → VSsO (fX P w K mg base N x (defScope st) f cdv A outer s H E) K mg (WX0 E) (defBody st) m) :
    Go P w K mg base (k + 1) x st ps (spDO K n g) :=
  D.go fun f fd F => by
    subst en
    exact fn_deckO hw F S hN (body f) e hnx
end
def NoNx (m : SS → SO) : Prop := ∀ ss ss', m ss ≠ .nx ss'
def NoBk (m : SS → SO) : Prop := ∀ ss ss', m ss ≠ .bk ss' ∧ m ss ≠ .ct ss'
theorem nn_ret {m : SS → EO Dt} : NoNx (mRet m) := fun ss ss' z => by
  unfold mRet at z
  cases h : m ss <;> rw [h] at z <;> cases z
theorem nn_seq {m n : SS → SO} (h : NoNx n) : NoNx (mSeq m n) := fun ss ss' z => by
  unfold mSeq at z
  split at z
  · exact h _ _ z
  · rename_i hh
    exact hh _ z
theorem st_noBk {α : Type} {x : EO α} {f : α → SS → SO} (h : ∀ a ss ss', f a ss ≠ .bk ss' ∧ f a ss ≠ .ct ss') (ss' : SS) : x.st f ≠ .bk ss' ∧ x.st f ≠ .ct ss' := by
  cases x with
  | ok a ss => exact h a ss ss'
  | exc c fs ss => exact ⟨nofun, nofun⟩
  | no => exact ⟨nofun, nofun⟩
theorem nb_set {i : Nat} {m : SS → EO NV} : NoBk (mSet i m) := fun ss => st_noBk fun n ss ss' => by
  show (if i < ss.length then SO.nx (ss.set i (some n.sv)) else .no) ≠ _ ∧ (if i < ss.length then SO.nx (ss.set i (some n.sv)) else .no) ≠ _
  split <;> exact ⟨nofun, nofun⟩
theorem nb_forGo {g : Dt → SS → Option SS} {n : SS → SO} : ∀ (items : List Dt) (ss ss' : SS), forGo g n items ss ≠ .bk ss' ∧ forGo g n items ss ≠ .ct ss' := by
  intro items
  induction items with
  | nil => exact fun ss ss' => ⟨nofun, nofun⟩
  | cons x r ih =>
    intro ss ss'
    unfold forGo
    cases hg : g x ss with
    | none => exact ⟨nofun, nofun⟩
    | some ss1 =>
      show (match n ss1 with | .nx ss2 => forGo g n r ss2 | .ct ss2 => forGo g n r ss2 | .bk ss2 => .nx ss2 | .rt d ss2 => .rt d ss2 | .exc c fs ss2 => .exc c fs ss2 | .no => .no) ≠ SO.bk ss' ∧ (match n ss1 with | .nx ss2 => forGo g n r ss2 | .ct ss2 => forGo g n r ss2 | .bk ss2 => .nx ss2 | .rt d ss2 => .rt d ss2 | .exc c fs ss2 => .exc c fs ss2 | .no => .no) ≠ SO.ct ss'
      cases hn : n ss1 with
      | nx s2 => exact ih _ _
      | ct s2 => exact ih _ _
      | bk s2 => exact ⟨nofun, nofun⟩
      | rt d2 s2 => exact ⟨nofun, nofun⟩
      | exc c fs s2 => exact ⟨nofun, nofun⟩
      | no => exact ⟨nofun, nofun⟩
theorem nb_for {m : SS → EO (List Dt)} {g : Dt → SS → Option SS} {n : SS → SO} : NoBk (mFor m g n) := fun ss => st_noBk fun items ss ss' => nb_forGo items ss ss'
theorem nr_append {i : Nat} {m : SS → EO Dt} : NoRt (mAppend i m) := fun ss d ss' z => by
  unfold mAppend at z
  cases ho : ownL ss i with
  | none => rw [ho] at z; cases z
  | some _ =>
    rw [ho] at z
    refine st_noRt (fun d ss d' ss' z => ?_) _ _ z
    have z : (match ownL ss i with | some ds => if ds.length < sizeLine then SO.nx (ss.set i (some (.o (.list (ds ++ [d]))))) else .no | none => .no) = .rt d' ss' := z
    cases ho : ownL ss i with
    | none => rw [ho] at z; cases z
    | some ds =>
      rw [ho] at z
      have z : (if ds.length < sizeLine then SO.nx (ss.set i (some (.o (.list (ds ++ [d]))))) else .no) = .rt d' ss' := z
      split at z <;> cases z
section
variable {n : Nat} {K : PySem.W.Frag} {mg : Str → Option Value} {W : WX} {k : Nat}
theorem deck_goO {i : Nat} {g : Dk → List Dt → Res (Dt × Dk)} {ω : Om} {ss : SS} {σ : St} {H0 H : Hp} {da : Addr} {q : List Int} {b c : Int} {vs : List V} {ds : List Dt} {d : Dt} {q' : List Int} {b' c' : Int} {Q : VK} {E : XK} (hk : 1000 ≤ k) (fr0 : ∀ a, H a = none → H0 a = none) (rs : RS K ω ss σ H) (hi : ss[i]? = some (some (.dk da q b c))) (hl : vs.length + 1 = n) (rp : RpA K (hid ω H) vs ds)
    (hg : g (q, b, c) ds = .ok (d, (q', b', c'))) (hq : EQg (NewR K H0 k) K mg W ω σ H (.ok d (ss.set i (some (.dk da q' b' c')))) Q) : spDO K n g (.ref da :: vs) H Q E := by
  obtain ⟨x0, hx, rfl, e1, a2, e2, e3, e4⟩ := rs.sl i _ hi
  refine ⟨hid ω H, da, a2, q, b, c, vs, ds, rfl, hl, hid_le, by unfold hid; rw [e1], by unfold hid; rw [e2], e3, e4, rp, ?_⟩
  rw [hg]
  intro F' H' p a3 sF sH z1 z3 kp tr w1 w2 p1 p2 p3 p4 rv
  have hil : i < σ.length := (List.getElem?_eq_some_iff.mp hx).1
  have hfew := rs.few
  have pω : ω p = none := rs.free p1
  have pa2 : p ≠ a2 := fun z => by rw [z, e4] at p1; cases p1
  obtain ⟨ω', ew⟩ : ∃ ω' : Om, ω' = fun y => if y = p then some k else if y = da ∨ y = a3 then some i else if y = a2 then none else ω y := ⟨_, rfl⟩
  have fp : ω' p = some k := by rw [ew]; exact if_pos rfl
  have f1 : ω' da = some i := by
    rw [ew]
    show (if da = p then some k else if da = da ∨ da = a3 then some i else if da = a2 then none else ω da) = some i
    rw [if_neg p3.symm, if_pos (.inl rfl)]
  have f3 : ω' a3 = some i := by
    rw [ew]
    show (if a3 = p then some k else if a3 = da ∨ a3 = a3 then some i else if a3 = a2 then none else ω a3) = some i
    rw [if_neg p4.symm, if_pos (.inr rfl)]
  have fo : ∀ y, y ≠ p → y ≠ da → y ≠ a3 → y ≠ a2 → ω' y = ω y := fun y np n1 n3 n2 => by
    rw [ew]
    show (if y = p then some k else if y = da ∨ y = a3 then some i else if y = a2 then none else ω y) = ω y
    rw [if_neg np, if_neg (fun z => z.elim n1 n3), if_neg n2]
  have f2 : ∀ y, y ≠ p → y ≠ da → y ≠ a3 → y = a2 → ω' y = none := fun y np n1 n3 n2 => by
    rw [ew]
    show (if y = p then some k else if y = da ∨ y = a3 then some i else if y = a2 then none else ω y) = none
    rw [if_neg np, if_neg (fun z => z.elim n1 n3), if_pos n2]
  have lab : ∀ y k', k' ≠ i → ω y = some k' → y ≠ p ∧ y ≠ da ∧ y ≠ a2 ∧ y ≠ a3 ∧ H' y = H y := fun y k' hk hy => by
    have n1 : y ≠ da := fun z => by rw [z, e1] at hy; exact hk (Option.some.inj hy).symm
    have n2 : y ≠ a2 := fun z => by rw [z, e2] at hy; exact hk (Option.some.inj hy).symm
    obtain ⟨o, ho⟩ := Option.isSome_iff_exists.mp (rs.own y k' hy)
    obtain ⟨g1, g2⟩ := kp y o ho n1 n2
    have hF : hid ω H y = none := by unfold hid; rw [hy]
    have np : y ≠ p := fun z => by rw [z, pω] at hy; cases hy
    exact ⟨np, n1, n2, (g2 hF).2, g1.trans ho.symm⟩
  have fz : Same (hid ω H) (hid ω' H') := fun y o hy => by
    obtain ⟨g1, g2⟩ := hid_some hy
    have np : y ≠ p := fun z => by rw [z, p1] at g2; cases g2
    have n1 : y ≠ da := fun z => by rw [z, e1] at g1; cases g1
    have n2 : y ≠ a2 := fun z => by rw [z, e2] at g1; cases g1
    have n3 : y ≠ a3 := fun z => by
      have := sF y o hy
      rw [z, z3] at this
      cases this
    rw [hid_of ((fo y np n1 n3 n2).trans g1)]
    exact sH y o (sF y o hy)
  have fz' : Same F' (hid ω' H') := fun y o hy => by
    have np : y ≠ p := fun z => by rw [z, p2] at hy; cases hy
    have n1 : y ≠ da := fun z => by rw [z, z1] at hy; cases hy
    have n3 : y ≠ a3 := fun z => by rw [z, z3] at hy; cases hy
    by_cases n2 : y = a2
    · rw [hid_of (f2 y np n1 n3 n2)]
      exact sH y o hy
    · have zω : ω y = none := by
        cases hω : ω y with
        | none => rfl
        | some k' =>
          obtain ⟨o', ho'⟩ := Option.isSome_iff_exists.mp (rs.own y k' hω)
          have hF : hid ω H y = none := by unfold hid; rw [hω]
          have := ((kp y o' ho' n1 n2).2 hF).1
          rw [this] at hy
          cases hy
      rw [hid_of ((fo y np n1 n3 n2).trans zω)]
      exact sH y o hy
  have hpH : (H' p).isSome = true := by
    rcases rv with ⟨_, _, _, z, _⟩ | ⟨_, _, _, z, _⟩ | ⟨_, _, _, z, _⟩ | ⟨_, _, _, _, _, z, _⟩ <;> rw [z] <;> rfl
  refine hq ω' H' (.ref p) ⟨by rw [List.length_set]; exact rs.len, rs.few, fun y k' hy => ?_, fun l s hs => ?_⟩ ⟨fz, fun y k' hk' hy => ?_, tr⟩ ⟨p, rfl, fr0 p p1, fp, rv.mono fz'⟩
  · by_cases np : y = p
    · rw [np]; exact hpH
    · by_cases n1 : y = da
      · rw [n1, w1]; rfl
      · by_cases n3 : y = a3
        · rw [n3, w2]; rfl
        · by_cases n2 : y = a2
          · rw [f2 y np n1 n3 n2] at hy; cases hy
          · rw [fo y np n1 n3 n2] at hy
            cases hH : H' y with
            | some o => rfl
            | none =>
              have := rs.own y k' hy
              rw [tr y hH] at this
              cases this
  · by_cases hli : l = i
    · subst hli
      rw [List.getElem?_set_self (by rw [rs.len]; exact hil)] at hs
      cases hs
      exact ⟨_, hx, rfl, f1, a3, f3, w1, w2⟩
    · rw [List.getElem?_set_ne (Ne.symm hli)] at hs
      obtain ⟨y, q1, q2⟩ := rs.sl l s hs
      refine ⟨y, q1, q2.keep fz fun z hz => ?_⟩
      obtain ⟨np, n1, n2, n3, n4⟩ := lab z l hli hz
      exact ⟨(fo z np n1 n3 n2).trans hz, n4⟩
  · obtain ⟨np, n1, n2, n3, n4⟩ := lab y k' (by omega) hy
    exact ⟨(fo y np n1 n3 n2).trans hy, n4⟩
end
section
variable {ι : Type} {X : ι → Cx} {k : Nat} {P : Program} {w : World} {K : PySem.W.Frag} {mg : Str → Option Value} {base : Heap} {W : WX} {e a b c : Expr} {es : List Expr} {pos p : Pos} {j n : Nat} {f : Addr} {fd : FuncData} {ps ks : List Str} {x : Str} {st : Stmt}
/-- f(deck, ..): what it gives is new -/
theorem drawO (C : VC X k P w K mg base W) (i : Nat) {y : Str} {py : Pos} {g : Dk → List Dt → Res (Dt × Dk)} {m : SS → EO (List Dt)} (G : Go P w K mg base j x st ps (spDO K n g)) (hj : j ≤ k) (ha : VA X K mg W es m) (hlen : ∀ ss ds ss', m ss = .ok ds ss' → ds.length + 1 = n)
    (hN : ∀ l, (X l).N[i]? = some y := by intro _; rfl) (hv : ∀ l, Vis (X l).env.scope y := by intro _; first | exact .inl rfl | exact .inr (.inl rfl) | exact .inr (.inr rfl)) (hg : ∀ i, Gl (X i) x := by intro _; rfl) (hd : (y == ("__debug__" : Str)) = false := by decide) (hcd : (y == ("__classdict__" : Str)) = false := by decide) (hdb : (x == ("__debug__" : Str)) = false := by decide)
    (he : ∀ l, starEach (.Name y py :: es) (X l).env = (false, eval (.Name y py) (X l).env) :: starEach es (X l).env := by intro _; rfl) (hpl : ∀ l, (backTo pos (starEach es (X l).env)).any (·.1) = false := by intro _; rfl) : VO X K mg W (.Call (.Name x p) (.Name y py :: es) [] pos) (mDraw i g m) := by
  obtain ⟨f, fd, FF, hm, hb, F⟩ := G.ex
  obtain ⟨t, a1, a2⟩ := ha.ex
  refine ⟨tCallS (spDO K n g) (WE W) (tCons (tVar i) t), fun l => ?_, fun k2 ω ss σ H Q hk2 rs q => ?_⟩
  · exact pe_g (k := j) (fd := fd) (ps := ps) (f := f) (by rw [C.eP l, C.ew l, C.eK l, C.em l, C.eb l]; exact F) ((C.rm l).mono hj) (C.gd l) (hg l) (by rw [C.em l]; exact hm) (by rw [C.eK l]; exact FF.kp) (by rw [C.eK l]; exact hb) (fun σ => passAt (C.tk l) σ) (pa_cons (pe_var (hN l) (hv l) hd hcd) (a1 l) (he l)) hdb (he l) (hpl l)
  · unfold mDraw at q
    split at q
    · rename_i da q0 b0 c0 hs0
      obtain ⟨x0, hx0, rfl, _⟩ := rs.sl i _ hs0
      refine ⟨_, hx0, a2 ω ss σ H _ rs (seqE (R2 := NewR K H k2) q fun ds ss1 ω1 H1 vs em rs1 fr1 rp1 q1 => ?_)⟩
      split at q1
      · rename_i da1 q2 b2 c2 hs1
        obtain ⟨x1, hx1, rfl, _⟩ := rs1.sl i _ hs1
        rw [hx0] at hx1
        cases hx1
        split at q1
        · rename_i d q' b' c' hgg
          exact deck_goO (mg := mg) (W := W) hk2 fr1.tr rs1 hs1 (by rw [rp1.length]; exact hlen _ _ _ em) rp1 hgg q1
        · exact q1.elim
      · exact q1.elim
    · exact q.elim
end
end VL

namespace VL
open PySem PySem.Spec L2
open PyProof.Rows hiding St
variable [WW]
theorem nv3_refs {xs : List NE} {ys : List (NestedKey × Addr × Value)} (h : Paired (fun (p : NestedKey × Addr × V) (q : NestedKey × Addr × Value) => p.1 = q.1 ∧ p.2.1 = q.2.1 ∧ RelV p.2.2 q.2.2) xs ys) : Vals (xs.map fun x => V.ref x.2.1) (ys.map fun y => Value.ref y.2.1) := by
  induction h with
  | nil => exact .nil
  | cons h t ih => exact .cons (show Value.ref _ = Value.ref _ from congrArg Value.ref h.2.1.symm) ih
theorem call_list_dN {X : Cx} (hc : X.calm = true) : CallR X (.type "list") (fun xs H Q => ∃ d es, xs = [V.ref d] ∧ H d = some (dNo d es) ∧ ∀ p, H p = none → Q (.ref p) (upd H p (.lst (es.map fun x => V.ref x.2.1)))) := by
  intro pins s σ H xs us Q I r h
  obtain ⟨d, kvs, rfl, hd, q⟩ := h
  obtain ⟨u, rfl, rx⟩ := r.one
  cases rx
  obtain ⟨⟨z, hs, ks, pr, o, es, ep, ho, hx, hdt, he, hn⟩, _, _⟩ := (show ObjOk X.prog X.w H s.heap d (dNo d kvs) from I.hok d _ hd)
  have l1 : es.size = ks.length := by
    have := congrArg List.length he
    rw [List.length_map, Array.length_toList] at this
    exact this
  have l2 : kvs.length = ks.length := Paired.length pr
  refine PySem.W.kdl_call (kdl_raw hs hx hdt) (I.ok.hd hc) ho (by omega) fun h' tk acc' c' kp e it => ?_
  have ea : acc'.toList = ks.map fun x => Value.ref x.2.1 := by
    have hl : acc'.toList.length = ks.length := by rw [Array.length_toList, it.1]; exact l1
    apply List.ext_getElem?
    intro j
    rw [List.getElem?_map]
    cases hj : acc'.toList[j]? with
    | none =>
      have h1 := List.getElem?_eq_none_iff.mp hj
      rw [List.getElem?_eq_none (by omega)]
      rfl
    | some v =>
      obtain ⟨en, hen, hv⟩ := it.2 j v (by rw [← Array.getElem?_toList]; exact hj)
      have qe : es.toList[j]? = (ks.map fun x => (⟨x.1.hash WW.w, Value.ref x.2.1, x.2.2⟩ : DictEntry))[j]? := by rw [he]
      rw [Array.getElem?_toList, hen, List.getElem?_map] at qe
      cases hb : ks[j]? with
      | none => rw [hb] at qe; cases qe
      | some b =>
        rw [hb] at qe
        have qe := Option.some.inj qe
        rw [hv, qe]
        rfl
  have rv : Vals (kvs.map fun x => V.ref x.2.1) acc'.toList := by rw [ea]; exact nv3_refs pr
  refine ⟨.ref s.heap.objs.size, _, I.laid (t' := tk) (o := .lst (kvs.map fun x => V.ref x.2.1)) kp (Nat.le_refl _) ?_, rfl, q _ (I.hok.fresh (Nat.le_refl _))⟩
  exact ⟨by rw [List.length_map]; exact z, acc'.toList, c', rv, by rw [Array.toArray_toList]; exact e⟩
theorem rpk_keys {K : PySem.W.Frag} {F : Hp} : ∀ {ds : List (Dt × Dt)} {kvs : List (Key × V)}, RpK K F kvs ds → RpA K F (kvs.map fun kv => kV kv.1) (ds.map (·.1))
  | [], _, h => by cases h; exact .nil
  | (_, d) :: ds, _, h => by
    cases h with
    | @cons k x xs _ _ h1 h2 =>
      refine .cons ?_ (rpk_keys h2)
      cases k with
      | inl i => exact .int i
      | inr z => exact .str z
theorem rpn_keys {K : PySem.W.Frag} {F : Hp} : ∀ {ds : List (Dt × Dt)} {xs : List NE}, RpN K F xs ds → RpA K F (xs.map fun x => V.ref x.2.1) (ds.map (·.1))
  | [], _, h => by cases h; exact .nil
  | (_, d) :: ds, _, h => by
    cases h with
    | cons hd h0 h1 h2 => exact .cons h0 (rpn_keys h2)
/-- list(x): a list, a tuple, a dict -/
def fListA : List Dt → Option (List Dt)
  | [.list ds] => some ds
  | [.tuple ds] => some ds
  | [.dict ds] => if (isK ds || isNK ds) = true then some (ds.map (·.1)) else none
  | _ => none
section
variable {ι : Type} {X : ι → Cx} {k : Nat} {P : Program} {w : World} {K : PySem.W.Frag} {mg : Str → Option Value} {base : Heap} {W : WX} {e a b c : Expr} {es : List Expr} {pos p : Pos} {x : Str}
theorem u_listA (C : VC X k P w K mg base W) : OuS X K (.type "list") fListA := by
  refine ⟨fun xs H Q => (∃ p ys, xs = [V.ref p] ∧ (SqL K H p ys ∨ SqT K H p ys) ∧ ∀ l, H l = none → Q (.ref l) (upd H l (.lst ys))) ∨ rListD xs H Q ∨ (∃ d es, xs = [V.ref d] ∧ H d = some (dNo d es) ∧ ∀ p, H p = none → Q (.ref p) (upd H p (.lst (es.map fun x => V.ref x.2.1)))), fun i => ?_, fun ω H xs ds z Q bx hf q => ?_⟩
  · intro pins s σ H xs us Q I r h
    rcases h with h | h | h
    · exact call_list_of pins s σ H xs us Q I r (by rw [C.eK i]; exact h)
    · exact call_list_dK (C.ca i) pins s σ H xs us Q I r h
    · exact call_list_dN (C.ca i) pins s σ H xs us Q I r h
  · unfold fListA at hf
    split at hf
    · cases hf
      obtain ⟨x, rfl, b1⟩ := bor1 bx
      obtain ⟨a, ys, rfl, h1, h2⟩ := bor_lst b1
      exact .inl ⟨_, _, rfl, .inl (.of h1), fun l hl => q l ys hl h2⟩
    · cases hf
      obtain ⟨x, rfl, b1⟩ := bor1 bx
      obtain ⟨a, ys, rfl, h1, h2⟩ := bor_tup b1
      exact .inl ⟨_, _, rfl, .inr (sqT_mono hid_le h1), fun l hl => q l ys hl h2⟩
    · rename_i ds0
      split at hf
      · rename_i hk
        cases hf
        obtain ⟨x, rfl, b1⟩ := bor1 bx
        rcases bor_dict b1 (by simpa using hk) with ⟨a, kvs, rfl, h1, h2⟩ | ⟨a, kvs, rfl, h1, hn, h2⟩
        · exact .inr (.inl ⟨_, _, rfl, h1, fun l hl => q l _ hl (rpk_keys h2)⟩)
        · exact .inr (.inr ⟨_, _, rfl, h1, fun l hl => q l _ hl (rpn_keys h2)⟩)
      · cases hf
    · cases hf
end
end VL

namespace VL
open PySem PySem.Spec L2
open PyProof.Rows hiding St
variable [WW]
abbrev dw2M (p0 p1 c1 c2 mu p2 c3 c4 p3 m4 p4 : Int) : SS → SO := (mSeq (mDkSet 0 (mBin gAdd (mB (mDkI 0 2)) (mB (mC (.int 1)))))
    (mSeq (mPar 3 2 (mFz (mDkI 0 2)) (mFz (mDkI 0 1)))
    (mSeq (mIfS (mDkNe 0) (mSeq (mSet 4 (mFz (mDkPop 0)))
    (mSeq (mIfS (mCmp fGe (mBor 4) (mB (mBin gPow (mB (mC (.int 10))) (mB (mC (.int 18)))))) (mSeq (mDkApp 0 4 1)
    (mRet (mBin gMod (mB (mBu fInt1 (mConsB (mBor 4) mNilB))) (mBor 1)))) .nx)
    (mSet 2 (mFz (mBin gAdd (mBor 2) (mB (mBin gMod (mB (mBu fInt1 (mConsB (mBor 4) mNilB))) (mB (mC (.int p0)))))))))) .nx)
    (mSeq (mSet 2 (mFz (mBin gMod (mB (mBin gMulA (mB (mBu fInt1 (mConsB (mB (mBin gAdd (mB (mBin gAdd (mB (mBin gMod (mBor 2) (mB (mC (.int p1))))) (mB (mBin gMulA (mB (mBin gMulA (mB (mC (.int c1))) (mBor 3))) (mBor 3))))) (mB (mC (.int c2))))) mNilB))) (mB (mC (.int mu))))) (mB (mC (.int p2))))))
    (mSeq (mSet 2 (mFz (mBin gMod (mB (mBu fInt1 (mConsB (mB (mBin gAdd (mB (mBin gAdd (mB (mBin gMulA (mBor 2) (mBor 2))) (mB (mBin gMulA (mB (mC (.int c3))) (mBor 3))))) (mB (mC (.int c4))))) mNilB))) (mB (mC (.int p3))))))
    (mRet (mBin gMod (mB (mBin gDiv (mB (mBin gMod (mB (mBu fInt1 (mConsB (mB (mBin gMulA (mBor 2) (mB (mC (.int m4))))) mNilB))) (mB (mC (.int p4))))) (mB (mC (.int 64))))) (mBor 1))))))))
structure Dw2 (p0 p1 c1 mu p2 c3 p3 m4 p4 : Int) : Prop where
  h0 : 0 < p0
  h1 : 0 < p1
  a1 : -(2 ^ 64) < c1 ∧ c1 < 2 ^ 64
  a2 : -(2 ^ 64) < mu ∧ mu < 2 ^ 64
  h2 : 0 < p2 ∧ p2 < 2 ^ 62
  a3 : -(2 ^ 64) < c3 ∧ c3 < 2 ^ 64
  h3 : 0 < p3
  a4 : -(2 ^ 64) < m4 ∧ m4 < 2 ^ 64
  h4 : 0 < p4
theorem dw2_all {p0 p1 c1 c2 mu p2 c3 c4 p3 m4 p4 : Int} (C : Dw2 p0 p1 c1 mu p2 c3 p3 m4 p4) {q : List Int} {b c n : Int} (hn : 0 < n) (hn2 : n < 1073741824) (hc : 0 ≤ c) (hc2 : c < 2 ^ 60) (hq : q.length ≤ 100) : ∃ r q' b', outX (dw2M p0 p1 c1 c2 mu p2 c3 c4 p3 m4 p4 [some (.dk 0 q b c), some (.v (.int n)), none, none, none]) = .ok (.int r, (q', b', c + 1)) ∧ 0 ≤ r ∧ r < n ∧ q'.length ≤ q.length := by
  have sq : q.length ≤ sizeLine := Nat.le_trans hq (by decide)
  have m1 : gMulA (.int c1) (.int (c + 1)) = some (.int (c1 * (c + 1))) := mulL _ C.a1.1 C.a1.2
  have m2 : gMulA (.int (c1 * (c + 1))) (.int (c + 1)) = some (.int (c1 * (c + 1) * (c + 1))) := mulR _ (by omega) (by omega)
  have m3 : ∀ x : Int, gMulA (.int x) (.int mu) = some (.int (x * mu)) := fun x => mulR _ C.a2.1 C.a2.2
  have r2 : ∀ x : Int, 0 ≤ x % p2 ∧ x % p2 < p2 := fun x => ⟨Int.emod_nonneg _ (by have := C.h2.1; omega), Int.emod_lt_of_pos _ C.h2.1⟩
  have m4' : ∀ x : Int, gMulA (.int (x % p2)) (.int (x % p2)) = some (.int (x % p2 * (x % p2))) := fun x => mulR _ (by have := r2 x; omega) (by have := r2 x; have := C.h2.2; omega)
  have m5 : gMulA (.int c3) (.int (c + 1)) = some (.int (c3 * (c + 1))) := mulL _ C.a3.1 C.a3.2
  have m6 : ∀ x : Int, gMulA (.int x) (.int m4) = some (.int (x * m4)) := fun x => mulR _ C.a4.1 C.a4.2
  have p1' : gPow (.int 10) (.int 18) = some (.int 1000000000000000000) := by
    simp only [gPow, gInt]
    rw [if_pos (by decide)]
    rfl
  have d0 : ∀ x : Int, gMod (.int x) (.int p0) = some (.int (x % p0)) := fun x => modI x C.h0
  have d1 : ∀ x : Int, gMod (.int x) (.int p1) = some (.int (x % p1)) := fun x => modI x C.h1
  have d2 : ∀ x : Int, gMod (.int x) (.int p2) = some (.int (x % p2)) := fun x => modI x C.h2.1
  have d3 : ∀ x : Int, gMod (.int x) (.int p3) = some (.int (x % p3)) := fun x => modI x C.h3
  have d4 : ∀ x : Int, gMod (.int x) (.int p4) = some (.int (x % p4)) := fun x => modI x C.h4
  have d5 : ∀ x : Int, gDiv (.int x) (.int 64) = some (.int (x / 64)) := fun x => divI x (by decide) (by decide)
  have d6 : ∀ x : Int, gMod (.int x) (.int n) = some (.int (x % n)) := fun x => modI x hn
  have rn : ∀ x : Int, 0 ≤ x % n ∧ x % n < n := fun x => ⟨Int.emod_nonneg _ (by omega), Int.emod_lt_of_pos _ hn⟩
  cases hql : q.getLast? with
  | none =>
    have e : q = [] := List.getLast?_eq_none_iff.mp hql
    subst e
    simp [dw2M, outX, dkAny, mDkSet, mDkI, mDkNe, mDkPop, mDkApp, dkOf, mC, mVar, mBor, mB, mNil, mCons, mNilB, mConsB, mTup, mLst, fit, mFz, mOw, NV.sv, mSeq, mRet, mIfS, mDrop, mSet, mPar, ownL, mAppend, gNm, gNilV, gConsV, gTupV, mAsg, mItems, itemsD, mRng1, mFor, mLc, mYes, mIf, mAnd, mOr, mNot, toB, vAnd, vOr, vNot, mBl, mCmp, mChain, two, alt, mBin, mNeg, outF, startS, mRes, mResK, opsGet, mBu, mOu, mIsi, mPart, mPart0, mSl, mDict0, mM1, mM0, mMn, EO.bind, EO.lift, EO.st, Opd.get, EO.calm, wipeS, restS, addI, m1, m2, m3, m4', m5, m6, d0, d1, d2, d3, d4, d5, d6, fInt1]
    exact ⟨_, [], ⟨rfl, rfl⟩, (rn _).1, (rn _).2, rfl⟩
  | some z =>
    have hl : q.dropLast.length + 1 = q.length := by
      have : q ≠ [] := by intro e; subst e; simp at hql
      rw [List.length_dropLast]
      have := List.length_pos_iff.mpr this
      omega
    have ne : q ≠ [] := by intro e; subst e; simp at hql
    have g1 : fGe (.int z) (.int 1000000000000000000) = some (decide ((1000000000000000000 : Int) ≤ z)) := rfl
    have c1' : 0 < n ∧ n < 1073741824 ∧ q.dropLast.length < sizeLine := ⟨hn, hn2, by omega⟩
    by_cases hz : (1000000000000000000 : Int) ≤ z
    · simp [dw2M, outX, dkAny, mDkSet, mDkI, mDkNe, mDkPop, mDkApp, dkOf, mC, mVar, mBor, mB, mNil, mCons, mNilB, mConsB, mTup, mLst, fit, mFz, mOw, NV.sv, mSeq, mRet, mIfS, mDrop, mSet, mPar, ownL, mAppend, gNm, gNilV, gConsV, gTupV, mAsg, mItems, itemsD, mRng1, mFor, mLc, mYes, mIf, mAnd, mOr, mNot, toB, vAnd, vOr, vNot, mBl, mCmp, mChain, two, alt, mBin, mNeg, outF, startS, mRes, mResK, opsGet, mBu, mOu, mIsi, mPart, mPart0, mSl, mDict0, mM1, mM0, mMn, EO.bind, EO.lift, EO.st, Opd.get, EO.calm, wipeS, restS, addI, m1, m2, m3, m4', m5, m6, d0, d1, d2, d3, d4, d5, d6, fInt1, hql, hz, p1', ne, g1, c1', -List.length_dropLast]
      refine ⟨_, _, ⟨rfl, rfl⟩, (rn _).1, (rn _).2, ?_⟩
      simp
      omega
    · simp [dw2M, outX, dkAny, mDkSet, mDkI, mDkNe, mDkPop, mDkApp, dkOf, mC, mVar, mBor, mB, mNil, mCons, mNilB, mConsB, mTup, mLst, fit, mFz, mOw, NV.sv, mSeq, mRet, mIfS, mDrop, mSet, mPar, ownL, mAppend, gNm, gNilV, gConsV, gTupV, mAsg, mItems, itemsD, mRng1, mFor, mLc, mYes, mIf, mAnd, mOr, mNot, toB, vAnd, vOr, vNot, mBl, mCmp, mChain, two, alt, mBin, mNeg, outF, startS, mRes, mResK, opsGet, mBu, mOu, mIsi, mPart, mPart0, mSl, mDict0, mM1, mM0, mMn, EO.bind, EO.lift, EO.st, Opd.get, EO.calm, wipeS, restS, addI, m1, m2, m3, m4', m5, m6, d0, d1, d2, d3, d4, d5, d6, fInt1, hql, hz, p1', ne, g1, c1', -List.length_dropLast]
      refine ⟨_, _, ⟨rfl, rfl⟩, (rn _).1, (rn _).2, ?_⟩
      simp
theorem draw2_ok {p0 p1 c1 c2 mu p2 c3 c4 p3 m4 p4 : Int} (C : Dw2 p0 p1 c1 mu p2 c3 p3 m4 p4) {G : Dk → List Dt → Res (Dt × Dk)} (hG : ∀ (D : Dk) (n : Int), G D [.int n] = outX (dw2M p0 p1 c1 c2 mu p2 c3 c4 p3 m4 p4 [dkS D, some (.v (.int n)), none, none, none])) : DrawOk G := by
  intro D k n h hk hn hn2
  obtain ⟨q, b, c⟩ := D
  obtain ⟨h1, h2, h3⟩ := h
  dsimp at h1 h2 h3
  obtain ⟨r, q', b', e, r1, r2, l⟩ := dw2_all (c2 := c2) (c4 := c4) C (b := b) (n := (n : Int)) (by omega) (by omega) h2 (by omega) h1
  obtain ⟨m, rfl⟩ := Int.eq_ofNat_of_zero_le r1
  exact ⟨m, (q', b', c + 1), by rw [hG]; exact e, by omega, by dsimp; omega, by dsimp; omega, by dsimp; omega⟩
end VL

namespace VL
open PySem PySem.Spec L2
open PyProof.Rows hiding St
variable [WW]
local macro_rules | `(tactic| sizeOf_list_dec) => `(tactic| first
  | with_reducible rfl | assumption | decide | (exact decide_eq_true (by omega)) | (exact decide_eq_false (by omega))
  | (simp only [Bool.not_true, Bool.not_false, Bool.not_eq_true', Bool.not_eq_false', decide_eq_true_eq, decide_eq_false_iff_not, Bool.and_eq_true, Bool.or_eq_true, Bool.and_eq_false_iff, Bool.or_eq_false_iff] <;> omega))
local macro_rules | `(tactic| array_get_dec) => `(tactic| first
  | with_reducible exact e_C
  | ((with_reducible apply e_Var); exact rfl) | ((with_reducible apply e_VarO); exact rfl)
  | ((with_reducible apply e_Bor); exact rfl) | ((with_reducible apply e_BorO); exact rfl) | ((with_reducible apply e_BorS); exact rfl)
  | with_reducible apply e_B | with_reducible exact e_Nil | with_reducible apply e_Cons | with_reducible exact e_NilB | with_reducible apply e_ConsB
  | with_reducible apply e_Tup | with_reducible apply e_Lst | with_reducible apply e_Bl | with_reducible apply e_toB | with_reducible apply e_Not
  | with_reducible apply e_And | with_reducible apply e_Or | with_reducible apply e_If | with_reducible apply e_vAnd | with_reducible apply e_vOr | with_reducible apply e_vNot
  | with_reducible apply e_Cmp | with_reducible apply e_Bin | with_reducible apply e_Chain | with_reducible apply e_Neg
  | ((with_reducible apply g_two); exact rfl; exact rfl) | with_reducible exact g_os0 | ((with_reducible apply g_os1); exact rfl)
  | with_reducible apply e_Bu | with_reducible apply e_Ou
  | with_reducible apply e_Isi | with_reducible apply e_IsO | with_reducible apply e_Fld | with_reducible exact e_Part0 | with_reducible apply e_Part | with_reducible apply e_Sl | with_reducible apply e_Rev
  | with_reducible exact e_Dict0 | with_reducible apply e_M1 | with_reducible apply e_M0 | with_reducible apply e_Mn
  | with_reducible apply e_Draw0 | with_reducible apply draw_1 | with_reducible apply e_Res | with_reducible apply e_ResK | with_reducible apply e_Make | with_reducible apply e_Meth | with_reducible apply e_EqI | with_reducible apply e_NeI | with_reducible apply e_BinI
  | with_reducible exact e_DNil | with_reducible apply e_DCons | with_reducible apply disp4 | with_reducible apply e_Disp | with_reducible exact e_NNil | with_reducible apply e_NCons
  | with_reducible apply e_Fz | with_reducible apply e_Ow | with_reducible apply e_Items | with_reducible apply e_Rng1 | with_reducible exact e_Yes | ((with_reducible apply e_PopC); exact rfl; with_reducible exact rfl) | ((with_reducible apply e_Pop); exact rfl)
  | with_reducible apply e_Sl3 | with_reducible apply e_LItems | with_reducible apply e_SetSort | with_reducible apply e_OuK | with_reducible apply e_Dc | with_reducible apply e_Lc2 | with_reducible apply e_LcY | with_reducible apply e_Lc
  | with_reducible apply e_Seq | with_reducible apply e_Ret | with_reducible apply e_IfS | with_reducible apply e_Drop | with_reducible apply e_Set | with_reducible apply e_Par | with_reducible apply e_ParT
  | ((with_reducible apply e_Append); exact rfl) | ((with_reducible apply e_Extend); exact rfl) | with_reducible apply e_Put | with_reducible apply e_Asg
  | with_reducible apply w_SeqIf | with_reducible apply w_SeqFor | with_reducible apply w_SeqWh | with_reducible apply w_Seq0
  | with_reducible apply w_IfS | with_reducible apply w_Ret | with_reducible apply w_nx | with_reducible apply w_ct | with_reducible apply w_bk
  | with_reducible apply w_Set | with_reducible apply w_Par | with_reducible apply w_ParT | with_reducible apply w_Append | with_reducible apply w_Extend | with_reducible apply w_Put | with_reducible apply w_Asg | with_reducible apply w_SetF | with_reducible apply w_Drop | with_reducible apply go_turn | with_reducible apply go_while | with_reducible apply go_lc | with_reducible apply go_lc2
  | with_reducible apply e_Nm | with_reducible exact e_NilV | with_reducible apply e_ConsV | ((with_reducible apply e_TupV); exact rfl; exact rfl) | with_reducible apply e_SetF
  | with_reducible exact q_addN _ _ | with_reducible exact q_addN1 _ | with_reducible exact q_add1N _ | with_reducible exact q_addI _ _ | with_reducible apply q_addS | with_reducible apply q_addT | with_reducible apply q_addL | with_reducible apply q_addL0
  | with_reducible apply q_lenS | with_reducible exact q_lenL | with_reducible exact q_lenT | with_reducible exact q_itL | with_reducible exact q_itN | with_reducible exact q_itT
  | with_reducible exact q_tupL | with_reducible exact q_tupT | with_reducible exact q_lisL | with_reducible exact q_lisT
  | with_reducible exact eqN _ _ | with_reducible exact eqA_int _ _ | with_reducible exact eqA_txt _ _ | with_reducible exact eqA_nil _ | with_reducible exact eqA_nilT _ | with_reducible exact q_eqB _ _
  | with_reducible exact q_neN _ _ | with_reducible exact neA_int _ _ | with_reducible exact q_neS _ _ | with_reducible exact neA_nil _ | with_reducible exact q_neB _ _
  | with_reducible exact q_ltN _ _ | with_reducible exact q_leN _ _ | with_reducible exact q_le0N _ | with_reducible exact q_all | with_reducible exact q_sumI | with_reducible exact q_any
  | with_reducible exact in_nats _ _ | with_reducible exact w_wide | with_reducible exact w_in | with_reducible exact w_ways | with_reducible exact w_out
  | (with_reducible refine i_T (by sizeOf_list_dec) ?_) | (with_reducible refine i_F (by sizeOf_list_dec) ?_)
  | with_reducible apply i_and | with_reducible apply i_or | with_reducible apply i_vand | with_reducible apply i_vor | with_reducible apply i_if
  | (simp only [List.set_cons_zero, List.set_cons_succ, NV.sv, setAll, wipeS, restS, List.getElem?_cons_zero, List.getElem?_cons_succ]; done)
  | (simp only [List.set_cons_zero, List.set_cons_succ, NV.sv, setAll, wipeS, restS, List.getElem?_cons_zero, List.getElem?_cons_succ]; exact rfl)
  | with_reducible exact rfl
  | exact rfl
  | (apply sl1000; (try simp only [List.length_cons, List.length_nil, List.length_map, List.length_append, List.length_range, app_len]); omega)
  | ((try simp only [List.length_cons, List.length_nil, List.length_map, List.length_append, List.length_range, app_len]); omega)
  | assumption
  | exact ⟨_, rfl⟩ | exact ⟨_, _, rfl⟩
  | (intro h; simp only [Bool.not_eq_true', Bool.not_eq_false', Bool.not_eq_true, Bool.not_eq_false, Bool.and_eq_true, Bool.or_eq_true, Bool.and_eq_false_iff, Bool.or_eq_false_iff, decide_eq_true_eq, decide_eq_false_iff_not, Bool.true_eq_false, Bool.false_eq_true, Bool.not_true, Bool.not_false, reduceCtorEq, Decidable.not_not, true_and, and_true, or_false, false_or, and_false, false_and, eq_self, not_true_eq_false, not_false_eq_true] at h)
  | intro _)
def topS (i : Nat) : Stmt := PySem.Challenge.pw_evenlead_k10_pacers_beside_all_short_way.main.body.getD i (.Pass ⟨0, 0, 0, 0⟩)
def clsS (i j : Nat) : Stmt := match topS i with
  | .ClassDef _ _ _ body _ _ _ _ _ _ _ => body.getD j (.Pass ⟨0, 0, 0, 0⟩)
  | _ => .Pass ⟨0, 0, 0, 0⟩
abbrev s__law_deck : Stmt := topS 40
abbrev s__law_draw : Stmt := topS 41
abbrev s__law_pick : Stmt := topS 42
abbrev s__law_word : Stmt := topS 43
abbrev s__law_plan : Stmt := topS 44
abbrev s_is_integer : Stmt := topS 8
abbrev s_is_index : Stmt := topS 9
abbrev s_are_states : Stmt := topS 10
abbrev s_is_text : Stmt := topS 11
abbrev s_is_move : Stmt := topS 30
abbrev s_Pacer___init__ : Stmt := clsS 38 0
abbrev s__law_code : Stmt := topS 45
abbrev s__law_ways : Stmt := topS 47
abbrev s_Pacer_spelled : Stmt := clsS 38 6
abbrev s_Pacer_further_places : Stmt := clsS 38 5
abbrev s_Pacer_tells : Stmt := clsS 38 4
abbrev s__law_texts : Stmt := topS 46
abbrev s_law : Stmt := topS 48
structure Top (w : World) (K : PySem.W.Frag) (mg : Str → Option Value) : Prop where
  hw : w = WW.w
  hdk : WW.dk = dkL
  d__law_deck : Df K mg "_law_deck" s__law_deck ["_law_script"]
  d__law_draw : Df K mg "_law_draw" s__law_draw ["_law_deck_here", "_law_below"]
  d__law_pick : Df K mg "_law_pick" s__law_pick ["_law_deck_here", "_law_some"]
  d__law_word : Df K mg "_law_word" s__law_word ["_law_deck_here", "_law_signs", "_law_top"]
  d__law_plan : Df K mg "_law_plan" s__law_plan ["_law_deck_here", "_law_top", "_law_many", "_law_long"]
  d_is_integer : Df K mg "is_integer" s_is_integer ["thing"]
  d_is_index : Df K mg "is_index" s_is_index ["many", "thing"]
  d_are_states : Df K mg "are_states" s_are_states ["many", "thing"]
  d_is_text : Df K mg "is_text" s_is_text ["thing"]
  d_is_move : Df K mg "is_move" s_is_move ["size", "thing"]
  d_Pacer___init__ : Di K "Pacer" "Pacer.__init__" s_Pacer___init__ ["self", "size", "begins", "moves", "ends"]
  d__law_code : Df K mg "_law_code" s__law_code ["_law_w"]
  d__law_ways : Df K mg "_law_ways" s__law_ways ["_law_w", "_law_top"]
  d_Pacer_spelled : Dm K "Pacer" "spelled" "Pacer.spelled" s_Pacer_spelled ["self", "moves"]
  d_Pacer_further_places : Dm K "Pacer" "further_places" "Pacer.further_places" s_Pacer_further_places ["self", "here", "left", "right"]
  d_Pacer_tells : Dm K "Pacer" "tells" "Pacer.tells" s_Pacer_tells ["self", "left", "right"]
  d__law_texts : Df K mg "_law_texts" s__law_texts ["_law_signs", "_law_top"]
  d_law : Df K mg "law" s_law ["_law_script"]
  k_Pacer : ClsA K mg "Pacer" ["size", "begins", "moves", "ends"]
  c_LETTERS : ∃ t, mg "LETTERS" = some (.str "abcdefghijklmnopqrstuvwxyz" t)
  c_PARTS : ∃ t, mg "PARTS" = some (.int (4) t)
  b_all : mg "all" = none
  b_any : mg "any" = none
  b_bool : mg "bool" = none
  b_enumerate : mg "enumerate" = none
  b_int : mg "int" = none
  b_isinstance : mg "isinstance" = none
  b_len : mg "len" = none
  b_list : mg "list" = none
  b_range : mg "range" = none
  b_str : mg "str" = none
  b_sum : mg "sum" = none
  b_tuple : mg "tuple" = none
  b_zip : mg "zip" = none


def blend (ns : List Int) : Int := ns.foldl (fun b z => (b * 40692 + z % 2147483563 + 67) % 2147483629) 95959
theorem sc__law_deck : FnScope ["_law_script", "_law_queue", "_law_blend", "_law_cell"] ["_law_script"] (defScope s__law_deck) := ⟨rfl, rfl, rfl, by decide +kernel, rfl, by decide +kernel, by decide +kernel⟩
theorem cut63 {α : Type} (xs : List α) (h : xs.length ≤ 63) : HT.sIx xs.length 0 none = 0 ∧ HT.sIx xs.length xs.length (some 63) = xs.length := by
  refine ⟨rfl, ?_⟩
  show (if (63 : Int) < 0 then ((63 : Int) + (xs.length : Int)).toNat else min (63 : Int).toNat xs.length) = xs.length
  rw [if_neg (by decide)]
  show min 63 xs.length = xs.length
  omega
section
variable {P : Program} {w : World} {K : PySem.W.Frag} {mg : Str → Option Value} {base : Heap}
theorem go__law_deck (T : Top w K mg) : Go P w K mg base 1 "_law_deck" s__law_deck ["_law_script"] (spM K blend) := by
  refine T.d__law_deck.go fun f fd F => FnG.of F sc__law_deck (fun vs H Q E z => ?_) fun cdv A outer s H vs Q E hr hgd hsp => ?_
  · obtain ⟨a, ns, rfl, _⟩ := z
    rfl
  · obtain ⟨a, ns, rfl, hS, hl, hq⟩ := hsp
    have C := VC.fn (P := P) (w := w) (K := K) (mg := mg) (base := base) (outer := outer) (s := s) (H := H) (E := E) T.hw sc__law_deck.nd hr hgd
    refine ⟨_, pss_cons (ps_par (C.ca ()) (C.nd ()) (i := 1) (j := 2) rfl rfl (by decide) rfl rfl (pa_cons (pe_revL (pe_callTy call_list_of rfl T.b_list PyProof.Rows.boot_list (pa_cons (pe_slice sl_list (pe_var (i := 0) rfl (.inl rfl)) po_none (po_some pe_int)) pa_nil))) (pa_cons pe_int pa_nil)) rfl rfl)
      (pss_cons (ps_for (C.po ()) (C.ca ()) (pi_sq (pe_var (i := 1) rfl (.inl rfl))) (pg_name (C.nd ()) (i := 3) rfl (.inl rfl) (.inl rfl))
        (pss_one (ps_set (C.nd ()) (i := 2) rfl (.inl rfl) (pe_op op_mod (pe_callTy call_int1 rfl T.b_int PyProof.Rows.boot_int (pa_cons (pe_op op_add (pe_op op_add (pe_op op_mul (pe_var (i := 2) rfl (.inl rfl)) pe_int) (pe_op op_mod (pe_callTy call_int1 rfl T.b_int PyProof.Rows.boot_int (pa_cons (pe_var (i := 3) rfl (.inl rfl)) pa_nil)) pe_int)) pe_int) pa_nil)) pe_int))))
        (pss_one (ps_ret (pe_lst (pa_cons (pe_var (i := 1) rfl (.inl rfl)) (pa_cons (pe_var (i := 2) rfl (.inl rfl)) (pa_cons pe_int pa_nil))))))), ?_⟩
    have eq1 : (cutV (ns.map V.int) none (some 63)).reverse = ns.reverse.map V.int := by
      have hl2 : (ns.map V.int).length ≤ 63 := by rw [List.length_map]; exact hl
      have e : cutV (ns.map V.int) none (some 63) = ns.map V.int := cut_whole (cut63 _ hl2)
      rw [e, List.map_reverse]
    refine ⟨.ref a, rfl, 63, rfl, a, ns.map V.int, rfl, hS, fun u1 hu1 => ⟨u1, _, rfl, .inl (.of upd_same), fun u2 hu2 => ⟨u2, _, rfl, .of upd_same, fun u3 hu3 => ⟨_, _, rfl, ?_⟩⟩⟩⟩
    rw [eq1]
    obtain ⟨q, eqq⟩ : ∃ q, q = ns.reverse := ⟨_, rfl⟩
    rw [← eqq] at hq ⊢
    obtain ⟨H1, e1⟩ : ∃ H1, H1 = upd (upd H u1 (.lst (cutV (ns.map V.int) none (some 63)))) u2 (.lst (cutV (ns.map V.int) none (some 63))) := ⟨_, rfl⟩
    rw [← e1] at hu3 ⊢
    obtain ⟨H3, e3⟩ : ∃ H3, H3 = upd H1 u3 (.lst (q.map V.int)) := ⟨_, rfl⟩
    rw [← e3]
    have at3 : H3 u3 = some (.lst (q.map V.int)) := by rw [e3]; exact upd_same
    have s1 : Same H H1 := by rw [e1]; exact (same_upd hu1).trans (same_upd hu2)
    have s3 : Same H H3 := by rw [e3]; exact s1.trans (same_upd hu3)
    have n3 : H u3 = none := s1.free hu3
    refine ⟨.ref u3, rfl, .inl ⟨u3, _, rfl, .of at3, ?_⟩⟩
    refine ⟨fun i m σ' H' => m = q.length - i ∧ i ≤ q.length ∧ H' = H3 ∧ ∃ y, σ' = [some (.ref a), some (.ref u3), some (.int (blend (q.take i))), y], ⟨q.length, rfl, Nat.zero_le _, rfl, none, rfl⟩, ?_⟩
    rintro i m σ' H' ⟨rfl, hi, rfl, y, rfl⟩
    by_cases hlt : i < q.length
    · have g : (q.map V.int)[i]? = some (.int q[i]) := by rw [List.getElem?_map, List.getElem?_eq_getElem hlt]; rfl
      refine .inr ⟨⟨_, _, .of at3, g⟩, fun σ' H' => H' = _ ∧ ∃ y, σ' = [some (.ref a), some (.ref u3), some (.int (blend (q.take (i + 1)))), y], fun σ' H' hN => ⟨q.length - (i + 1), by omega, rfl, hlt, hN⟩, fun v H' hy => ?_⟩
      obtain ⟨rfl, fv⟩ := hy
      have ev : v = .int q[i] := Option.some.inj ((fv _ (.of at3)).symm.trans g)
      subst ev
      refine ⟨_, rfl, _, _, rfl, rfl, .inr ⟨by decide, by decide⟩, _, rfl, .inl ⟨_, rfl, _, _, rfl, rfl, (show (0 : Int) < 2147483563 by decide), _, _, rfl, rfl, _, _, rfl, rfl, .inl ⟨_, rfl, _, _, rfl, rfl, (show (0 : Int) < 2147483629 by decide), rfl, some (.int q[i]), ?_⟩⟩⟩
      have et : q.take (i + 1) = q.take i ++ [q[i]] := by rw [List.take_succ, List.getElem?_eq_getElem hlt]; rfl
      have eb : blend (q.take (i + 1)) = (blend (q.take i) * 40692 + q[i] % 2147483563 + 67) % 2147483629 := by
        rw [et]
        unfold blend
        rw [List.foldl_append]
        rfl
      rw [eb]
      rfl
    · have ei : i = q.length := by omega
      subst ei
      refine .inl ⟨⟨_, .of at3, by rw [List.length_map]; exact Nat.le_refl _⟩, ?_⟩
      rw [List.take_length]
      refine ⟨_, rfl, _, rfl, (show 3 ≤ sizeLine by decide), fun d hd => ?_⟩
      have nd : d ≠ u3 := fun z => by rw [z, at3] at hd; cases hd
      exact hq _ d u3 (s3.trans (same_upd hd)) (s3.free hd) n3 nd (by rw [T.hdk]; exact upd_same) (by rw [upd_ne nd.symm]; exact at3)
end

theorem sc__law_draw : FnScope ["_law_deck_here", "_law_below", "_law_blend", "_law_cell"] ["_law_deck_here", "_law_below"] (defScope s__law_draw) := ⟨rfl, rfl, rfl, by decide +kernel, rfl, by decide +kernel, by decide +kernel⟩
abbrev N__law_draw : List Str := ["_law_deck_here", "_law_below", "_law_blend", "_law_cell"]
def m__law_draw : SS → SO := (mSeq (mDkSet 0 (mBin gAdd (mB (mDkI 0 2)) (mB (mC (.int 1)))))
    (mSeq (mSet 2 (mFz (mBin gAdd (mB (mDkI 0 1)) (mB (mBin gMulA (mB (mBin gMulA (mB (mC (.int 72089))) (mB (mDkI 0 2)))) (mB (mDkI 0 2)))))))
    (mSeq (mIfS (mDkNe 0) (mSeq (mSet 3 (mFz (mDkPop 0)))
    (mSeq (mIfS (mCmp fGe (mBor 3) (mB (mBin gPow (mB (mC (.int 10))) (mB (mC (.int 18)))))) (mSeq (mDkApp 0 3 1)
    (mRet (mBin gMod (mB (mBu fInt1 (mConsB (mBor 3) mNilB))) (mBor 1)))) .nx)
    (mSet 2 (mFz (mBin gAdd (mBor 2) (mBor 3)))))) .nx)
    (mSeq (mSet 2 (mFz (mBin gMod (mB (mBin gMulA (mB (mBin gMod (mB (mBu fInt1 (mConsB (mBor 2) mNilB))) (mB (mC (.int 2147483587))))) (mB (mC (.int 48271))))) (mB (mC (.int 2147483647))))))
    (mSeq (mSet 2 (mFz (mBin gMod (mB (mBu fInt1 (mConsB (mB (mBin gAdd (mB (mBin gAdd (mB (mBin gMulA (mBor 2) (mBor 2))) (mB (mBin gMulA (mB (mC (.int 69621))) (mB (mDkI 0 2)))))) (mB (mC (.int 71))))) mNilB))) (mB (mC (.int 2147483549))))))
    (mRet (mBin gMod (mB (mBin gDiv (mB (mBin gMod (mB (mBu fInt1 (mConsB (mB (mBin gMulA (mBor 2) (mB (mC (.int 39373))))) mNilB))) (mB (mC (.int 2147483629))))) (mB (mC (.int 64))))) (mBor 1))))))))
theorem n__law_draw : NtS (m__law_draw) := by
  unfold m__law_draw
  repeat first | apply ns_Seq | apply ns_Ret | apply ns_If | apply ns_Set | apply ns_Par | apply ns_Append | apply ns_Asg | apply ns_For | apply ns_Drop | apply ns_DkSet | apply ns_DkApp | apply nts_nx | apply nts_bk | apply nts_ct | apply nts_rt | apply nt_Fz | apply nt_Ow | apply nt_C | apply nt_Var | apply nt_Bor | apply nt_B | apply nt_Nil | apply nt_Cons | apply nt_NilB | apply nt_ConsB | apply nt_Tup | apply nt_Lst | apply nt_Cmp | apply nt_Bl | apply nt_Chain | apply nt_toB | apply nt_Not | apply nt_And | apply nt_Or | apply nt_vAnd | apply nt_vOr | apply nt_vNot | apply nt_If | apply nt_Bin | apply nt_Neg | apply nt_ResK | apply nt_Res | apply nt_Bu | apply nt_Ou | apply nt_Isi | apply nt_Part0 | apply nt_Part | apply nt_Sl | apply nt_SlL | apply nt_Rev | apply nt_Dict0 | apply nt_M1 | apply nt_M0 | apply nt_Mn | apply nt_Draw | apply ng_Nm | apply ng_Nil | apply ng_Cons | apply ng_Tup | apply nt_Items | apply nt_Rng1 | apply nt_Rng2 | apply nt_Enum | apply nt_Zip | apply nt_Yes | apply nt_Lc | apply nt_DkI | apply nt_DkNe | apply nt_DkPop | apply nt_fun_no | apply nts_fun_no | apply nt_or | apply nt_Fld | apply nt_Make | apply nt_Meth | apply nt_EqI | apply nt_NeI | apply nt_BinI | apply nt_IsO | apply nt_DNil | apply nt_DCons | apply nt_Disp | apply ns_Put | apply nt_Pop | apply ns_Extend | apply nt_NNil | apply nt_NCons | apply ns_ParT | apply ns_SetF | apply nt_Dc
def G__law_draw : Dk → List Dt → Res (Dt × Dk) := fun dk ds => outX (m__law_draw (startD 0 N__law_draw dk ds))
theorem e__law_draw (a : Addr) (dk : Dk) (ds : List Dt) (h : ds.length + 1 = 2) : outD a (m__law_draw (startD a N__law_draw dk ds)) = G__law_draw dk ds ∨ G__law_draw dk ds = .no := .inl (nt_deck n__law_draw)
theorem dok : DrawOk G__law_draw := draw_ok (c1 := 72089) (c2 := 71) (by decide) (fun D n => rfl)
section
variable {P : Program} {w : World} {K : PySem.W.Frag} {mg : Str → Option Value} {base : Heap}
theorem go__law_draw (T : Top w K mg) : Go P w K mg base 1 "_law_draw" s__law_draw ["_law_deck_here", "_law_below"] (spD K 2 G__law_draw) := go_deck T.hw T.d__law_draw sc__law_draw (by decide) rfl e__law_draw fun f cdv A outer s H E C =>
    (ss_cons (s_dkSet C T.hdk 0 (v_bin (b_val (v_dkI C T.hdk 0 (by intro _; rfl) (by intro _; exact .inl rfl))) (b_val v_int) (s_add C)) (by intro _; rfl) (by intro _; exact .inl rfl))
    (ss_cons (set1 C 2 (n_v (v_bin (b_val (v_dkI C T.hdk 0 (by intro _; rfl) (by intro _; exact .inl rfl))) (b_val (v_bin (b_val (v_bin (b_val v_int) (b_val (v_dkI C T.hdk 0 (by intro _; rfl) (by intro _; exact .inl rfl))) (s_mulA C))) (b_val (v_dkI C T.hdk 0 (by intro _; rfl) (by intro _; exact .inl rfl))) (s_mulA C))) (s_add C))))
    (ss_cons (s_if (t_dkNe C T.hdk 0 (by intro _; rfl) (by intro _; exact .inl rfl)) (ss_cons (set1 C 3 (n_v (v_dkPop C T.hdk 0 (by intro _; rfl) (by intro _; exact .inl rfl))))
    (ss_cons (s_if (t_cmp (bn 3) (b_val (v_bin (b_val v_int) (b_val v_int) s_pow)) c_ge rfl) (ss_cons (s_dkApp C T.hdk 0 3 1 (by intro _; rfl) (by intro _; exact .inl rfl) (by intro _; rfl) (by intro _; exact .inl rfl) (by intro _; rfl) (by intro _; exact .inl rfl))
    (ss_one (s_ret (v_bin (b_val (v_buT C u_int1 (bs_cons (bn 3) bs_nil) (by intro _; rfl) T.b_int (by decide +kernel))) (bn 1) s_mod)))) ss_nil)
    (ss_one (set1 C 2 (n_v (v_bin (bn 2) (bn 3) (s_add C))))))) ss_nil)
    (ss_cons (set1 C 2 (n_v (v_bin (b_val (v_bin (b_val (v_bin (b_val (v_buT C u_int1 (bs_cons (bn 2) bs_nil) (by intro _; rfl) T.b_int (by decide +kernel))) (b_val v_int) s_mod)) (b_val v_int) (s_mulA C))) (b_val v_int) s_mod)))
    (ss_cons (set1 C 2 (n_v (v_bin (b_val (v_buT C u_int1 (bs_cons (b_val (v_bin (b_val (v_bin (b_val (v_bin (bn 2) (bn 2) (s_mulA C))) (b_val (v_bin (b_val v_int) (b_val (v_dkI C T.hdk 0 (by intro _; rfl) (by intro _; exact .inl rfl))) (s_mulA C))) (s_add C))) (b_val v_int) (s_add C))) bs_nil) (by intro _; rfl) T.b_int (by decide +kernel))) (b_val v_int) s_mod)))
    (ss_one (s_ret (v_bin (b_val (v_bin (b_val (v_bin (b_val (v_buT C u_int1 (bs_cons (b_val (v_bin (bn 2) (b_val v_int) (s_mulA C))) bs_nil) (by intro _; rfl) T.b_int (by decide +kernel))) (b_val v_int) s_mod)) (b_val v_int) s_div)) (bn 1) s_mod))))))))
end

theorem sc__law_pick : FnScope ["_law_deck_here", "_law_some"] ["_law_deck_here", "_law_some"] (defScope s__law_pick) := ⟨rfl, rfl, rfl, by decide +kernel, rfl, by decide +kernel, by decide +kernel⟩
abbrev N__law_pick : List Str := ["_law_deck_here", "_law_some"]
def m__law_pick : SS → SO := (mRet (mBin fIx (mBor 1) (mB (mDraw 0 G__law_draw (mCons (mBu fLen (mConsB (mBor 1) mNilB)) mNil)))))
theorem n__law_pick : NtS (m__law_pick) := by
  unfold m__law_pick
  repeat first | apply ns_Seq | apply ns_Ret | apply ns_If | apply ns_Set | apply ns_Par | apply ns_Append | apply ns_Asg | apply ns_For | apply ns_Drop | apply ns_DkSet | apply ns_DkApp | apply nts_nx | apply nts_bk | apply nts_ct | apply nts_rt | apply nt_Fz | apply nt_Ow | apply nt_C | apply nt_Var | apply nt_Bor | apply nt_B | apply nt_Nil | apply nt_Cons | apply nt_NilB | apply nt_ConsB | apply nt_Tup | apply nt_Lst | apply nt_Cmp | apply nt_Bl | apply nt_Chain | apply nt_toB | apply nt_Not | apply nt_And | apply nt_Or | apply nt_vAnd | apply nt_vOr | apply nt_vNot | apply nt_If | apply nt_Bin | apply nt_Neg | apply nt_ResK | apply nt_Res | apply nt_Bu | apply nt_Ou | apply nt_Isi | apply nt_Part0 | apply nt_Part | apply nt_Sl | apply nt_SlL | apply nt_Rev | apply nt_Dict0 | apply nt_M1 | apply nt_M0 | apply nt_Mn | apply nt_Draw | apply ng_Nm | apply ng_Nil | apply ng_Cons | apply ng_Tup | apply nt_Items | apply nt_Rng1 | apply nt_Rng2 | apply nt_Enum | apply nt_Zip | apply nt_Yes | apply nt_Lc | apply nt_DkI | apply nt_DkNe | apply nt_DkPop | apply nt_fun_no | apply nts_fun_no | apply nt_or | apply nt_Fld | apply nt_Make | apply nt_Meth | apply nt_EqI | apply nt_NeI | apply nt_BinI | apply nt_IsO | apply nt_DNil | apply nt_DCons | apply nt_Disp | apply ns_Put | apply nt_Pop | apply ns_Extend | apply nt_NNil | apply nt_NCons | apply ns_ParT | apply ns_SetF | apply nt_Dc
def G__law_pick : Dk → List Dt → Res (Dt × Dk) := fun dk ds => outX (m__law_pick (startD 0 N__law_pick dk ds))
theorem e__law_pick (a : Addr) (dk : Dk) (ds : List Dt) (h : ds.length + 1 = 2) : outD a (m__law_pick (startD a N__law_pick dk ds)) = G__law_pick dk ds ∨ G__law_pick dk ds = .no := .inl (nt_deck n__law_pick)
theorem pok : PickOk G__law_pick := pick_ok dok (fun D d => rfl)
section
variable {P : Program} {w : World} {K : PySem.W.Frag} {mg : Str → Option Value} {base : Heap}
theorem go__law_pick (T : Top w K mg) : Go P w K mg base 2 "_law_pick" s__law_pick ["_law_deck_here", "_law_some"] (spD K 2 G__law_pick) := go_deck T.hw T.d__law_pick sc__law_pick (by decide) rfl e__law_pick fun f cdv A outer s H E C =>
    (ss_one (s_ret (v_ix C (bn 1) (b_val (draw C 0 (go__law_draw T) (by first | decide | omega) (a_cons (v_bu C (u_len C) (bs_cons (bn 1) bs_nil) (by intro _; rfl) T.b_len (by decide +kernel)) a_nil) (fun ss ds ss' h => congrArg (· + 1) ((mCons_len mNil_len) ss ds ss' h)))))))
end

theorem sc__law_word : FnScope ["_law_deck_here", "_law_signs", "_law_top", "_law_turn"] ["_law_deck_here", "_law_signs", "_law_top"] (defScope s__law_word) := ⟨rfl, rfl, rfl, by decide +kernel, rfl, by decide +kernel, by decide +kernel⟩
def cs_184_19 : Scope := { kind := PySem.ScopeKind.function, names := [ (PySem.Str.ofString ".0", PySem.NameKind.local), (PySem.Str.ofString "_law_turn", PySem.NameKind.local), (PySem.Str.ofString "_law_pick", PySem.NameKind.globalImplicit), (PySem.Str.ofString "_law_deck_here", PySem.NameKind.free), (PySem.Str.ofString "_law_signs", PySem.NameKind.free)], isGenerator := false, isCoroutine := false, more := [] : PySem.Scope }
theorem bo_184_19 : BlkOk ["_law_deck_here", "_law_signs", "_law_top", "_law_turn"] (defScope s__law_word) cs_184_19 [("_law_turn", 3)] := ⟨rfl, by decide, by decide, by decide, by decide⟩
abbrev N__law_word : List Str := ["_law_deck_here", "_law_signs", "_law_top", "_law_turn"]
def m__law_word : SS → SO := (mRet (mM1 fJoin (mB (mC (.str ""))) (mB (mLc (mRng1 (mCons (mDraw 0 G__law_draw (mCons (mBin gAdd (mBor 2) (mB (mC (.int 1)))) mNil)) mNil)) [3] (gNm 3) mYes (mDraw 0 G__law_pick (mCons (mVar 1) mNil))))))
theorem n__law_word : NtS (m__law_word) := by
  unfold m__law_word
  repeat first | apply ns_Seq | apply ns_Ret | apply ns_If | apply ns_Set | apply ns_Par | apply ns_Append | apply ns_Asg | apply ns_For | apply ns_Drop | apply ns_DkSet | apply ns_DkApp | apply nts_nx | apply nts_bk | apply nts_ct | apply nts_rt | apply nt_Fz | apply nt_Ow | apply nt_C | apply nt_Var | apply nt_Bor | apply nt_B | apply nt_Nil | apply nt_Cons | apply nt_NilB | apply nt_ConsB | apply nt_Tup | apply nt_Lst | apply nt_Cmp | apply nt_Bl | apply nt_Chain | apply nt_toB | apply nt_Not | apply nt_And | apply nt_Or | apply nt_vAnd | apply nt_vOr | apply nt_vNot | apply nt_If | apply nt_Bin | apply nt_Neg | apply nt_ResK | apply nt_Res | apply nt_Bu | apply nt_Ou | apply nt_Isi | apply nt_Part0 | apply nt_Part | apply nt_Sl | apply nt_SlL | apply nt_Rev | apply nt_Dict0 | apply nt_M1 | apply nt_M0 | apply nt_Mn | apply nt_Draw | apply ng_Nm | apply ng_Nil | apply ng_Cons | apply ng_Tup | apply nt_Items | apply nt_Rng1 | apply nt_Rng2 | apply nt_Enum | apply nt_Zip | apply nt_Yes | apply nt_Lc | apply nt_DkI | apply nt_DkNe | apply nt_DkPop | apply nt_fun_no | apply nts_fun_no | apply nt_or | apply nt_Fld | apply nt_Make | apply nt_Meth | apply nt_EqI | apply nt_NeI | apply nt_BinI | apply nt_IsO | apply nt_DNil | apply nt_DCons | apply nt_Disp | apply ns_Put | apply nt_Pop | apply ns_Extend | apply nt_NNil | apply nt_NCons | apply ns_ParT | apply ns_SetF | apply nt_Dc
def G__law_word : Dk → List Dt → Res (Dt × Dk) := fun dk ds => outX (m__law_word (startD 0 N__law_word dk ds))
theorem e__law_word (a : Addr) (dk : Dk) (ds : List Dt) (h : ds.length + 1 = 3) : outD a (m__law_word (startD a N__law_word dk ds)) = G__law_word dk ds ∨ G__law_word dk ds = .no := .inl (nt_deck n__law_word)
theorem wok : WordOk G__law_word := word_ok dok pok (fun D d e => rfl)
section
variable {P : Program} {w : World} {K : PySem.W.Frag} {mg : Str → Option Value} {base : Heap}
theorem go__law_word (T : Top w K mg) : Go P w K mg base 3 "_law_word" s__law_word ["_law_deck_here", "_law_signs", "_law_top"] (spD K 3 G__law_word) := go_deck T.hw T.d__law_word sc__law_word (by decide) rfl e__law_word fun f cdv A outer s H E C =>
    (ss_one (s_ret (v_m1 PySem.F.slot_str_join PySem.F.type_str_join (u_join C) (b_val v_str) (b_val (v_new (o_lc C (fun _ => bo_184_19) (i_rng1 C (a_cons (draw C 0 (go__law_draw T) (by first | decide | omega) (a_cons (v_bin (bn 2) (b_val v_int) (s_add C)) a_nil) (fun ss ds ss' h => congrArg (· + 1) ((mCons_len mNil_len) ss ds ss' h))) a_nil) (by intro _; rfl) T.b_range) (gn (C.blk cs_184_19) 3) ts_nil (draw (C.blk cs_184_19) 0 (go__law_pick T) (by first | decide | omega) (a_cons (nm 1) a_nil) (fun ss ds ss' h => congrArg (· + 1) ((mCons_len mNil_len) ss ds ss' h)))))))))
end

theorem sc__law_plan : FnScope ["_law_deck_here", "_law_top", "_law_many", "_law_long", "_law_wide", "_law_ways_here", "_law_turn", "_law_goals", "_law_near", "_law_k"] ["_law_deck_here", "_law_top", "_law_many", "_law_long"] (defScope s__law_plan) := ⟨rfl, rfl, rfl, by decide +kernel, rfl, by decide +kernel, by decide +kernel⟩
def cs_191_23 : Scope := { kind := PySem.ScopeKind.function, names := [ (PySem.Str.ofString ".0", PySem.NameKind.local), (PySem.Str.ofString "_law_k", PySem.NameKind.local), (PySem.Str.ofString "_law_draw", PySem.NameKind.globalImplicit), (PySem.Str.ofString "_law_deck_here", PySem.NameKind.free)], isGenerator := false, isCoroutine := false, more := [] : PySem.Scope }
theorem bo_191_23 : BlkOk ["_law_deck_here", "_law_top", "_law_many", "_law_long", "_law_wide", "_law_ways_here", "_law_turn", "_law_goals", "_law_near", "_law_k"] (defScope s__law_plan) cs_191_23 [("_law_k", 9)] := ⟨rfl, by decide, by decide, by decide, by decide⟩
def cs_192_43 : Scope := { kind := PySem.ScopeKind.function, names := [ (PySem.Str.ofString ".0", PySem.NameKind.local), (PySem.Str.ofString "_law_k", PySem.NameKind.local), (PySem.Str.ofString "_law_draw", PySem.NameKind.globalImplicit), (PySem.Str.ofString "_law_deck_here", PySem.NameKind.free)], isGenerator := false, isCoroutine := false, more := [] : PySem.Scope }
theorem bo_192_43 : BlkOk ["_law_deck_here", "_law_top", "_law_many", "_law_long", "_law_wide", "_law_ways_here", "_law_turn", "_law_goals", "_law_near", "_law_k"] (defScope s__law_plan) cs_192_43 [("_law_k", 9)] := ⟨rfl, by decide, by decide, by decide, by decide⟩
abbrev N__law_plan : List Str := ["_law_deck_here", "_law_top", "_law_many", "_law_long", "_law_wide", "_law_ways_here", "_law_turn", "_law_goals", "_law_near", "_law_k"]
def m__law_plan : SS → SO := (mSeq (mSet 4 (mFz (mBin gAdd (mB (mC (.int 1))) (mB (mDraw 0 G__law_draw (mCons (mVar 1) mNil))))))
    (mSeq (mSet 5 (mOw (mLst mNil)))
    (mSeq (mFor (mRng1 (mCons (mDraw 0 G__law_draw (mCons (mBin gAdd (mBor 2) (mB (mC (.int 1)))) mNil)) mNil)) (gNm 6) (mSeq (mSet 8 (mFz (mDraw 0 G__law_draw (mCons (mVar 4) mNil))))
    (mAppend 5 (mTup (mCons (mVar 8) (mCons (mDraw 0 G__law_word (mCons (mC (.str "ab")) (mCons (mVar 3) mNil))) (mCons (mDraw 0 G__law_word (mCons (mC (.str "ab")) (mCons (mVar 3) mNil))) (mCons (mDraw 0 G__law_draw (mCons (mVar 4) mNil)) mNil))))))))
    (mSeq (mSet 7 (mFz (mBu fTup (mConsB (mB (mLc (mRng1 (mCons (mVar 4) mNil)) [9] (gNm 9) (mCmp fEqA (mB (mDraw 0 G__law_draw (mCons (mC (.int 2)) mNil))) (mB (mC (.int 0)))) (mVar 9))) mNilB))))
    (mRet (mDisp (mDCons (mC (.str "wide")) (mVar 4) (mDCons (mC (.str "in")) (mBu fTup (mConsB (mB (mLc (mRng1 (mCons (mVar 4) mNil)) [9] (gNm 9) (mCmp fEqA (mB (mDraw 0 G__law_draw (mCons (mC (.int 2)) mNil))) (mB (mC (.int 0)))) (mVar 9))) mNilB)) (mDCons (mC (.str "ways")) (mVar 5) (mDCons (mC (.str "out")) (mVar 7) mDNil))))))))))
theorem n__law_plan : NtS (m__law_plan) := by
  unfold m__law_plan
  repeat first | apply ns_Seq | apply ns_Ret | apply ns_If | apply ns_Set | apply ns_Par | apply ns_Append | apply ns_Asg | apply ns_For | apply ns_Drop | apply ns_DkSet | apply ns_DkApp | apply nts_nx | apply nts_bk | apply nts_ct | apply nts_rt | apply nt_Fz | apply nt_Ow | apply nt_C | apply nt_Var | apply nt_Bor | apply nt_B | apply nt_Nil | apply nt_Cons | apply nt_NilB | apply nt_ConsB | apply nt_Tup | apply nt_Lst | apply nt_Cmp | apply nt_Bl | apply nt_Chain | apply nt_toB | apply nt_Not | apply nt_And | apply nt_Or | apply nt_vAnd | apply nt_vOr | apply nt_vNot | apply nt_If | apply nt_Bin | apply nt_Neg | apply nt_ResK | apply nt_Res | apply nt_Bu | apply nt_Ou | apply nt_Isi | apply nt_Part0 | apply nt_Part | apply nt_Sl | apply nt_SlL | apply nt_Rev | apply nt_Dict0 | apply nt_M1 | apply nt_M0 | apply nt_Mn | apply nt_Draw | apply ng_Nm | apply ng_Nil | apply ng_Cons | apply ng_Tup | apply nt_Items | apply nt_Rng1 | apply nt_Rng2 | apply nt_Enum | apply nt_Zip | apply nt_Yes | apply nt_Lc | apply nt_DkI | apply nt_DkNe | apply nt_DkPop | apply nt_fun_no | apply nts_fun_no | apply nt_or | apply nt_Fld | apply nt_Make | apply nt_Meth | apply nt_EqI | apply nt_NeI | apply nt_BinI | apply nt_IsO | apply nt_DNil | apply nt_DCons | apply nt_Disp | apply ns_Put | apply nt_Pop | apply ns_Extend | apply nt_NNil | apply nt_NCons | apply ns_ParT | apply ns_SetF | apply nt_Dc
def G__law_plan : Dk → List Dt → Res (Dt × Dk) := fun dk ds => outX (m__law_plan (startD 0 N__law_plan dk ds))
theorem e__law_plan (a : Addr) (dk : Dk) (ds : List Dt) (h : ds.length + 1 = 4) : outD a (m__law_plan (startD a N__law_plan dk ds)) = G__law_plan dk ds ∨ G__law_plan dk ds = .no := .inl (nt_deck n__law_plan)
theorem plok : PlansOk G__law_plan := plan_ok dok wok (fun D d1 d2 d3 => rfl)
section
variable {P : Program} {w : World} {K : PySem.W.Frag} {mg : Str → Option Value} {base : Heap}
theorem go__law_plan (T : Top w K mg) : Go P w K mg base 4 "_law_plan" s__law_plan ["_law_deck_here", "_law_top", "_law_many", "_law_long"] (spDO K 4 G__law_plan) := go_deckO T.hw T.d__law_plan sc__law_plan (by decide) rfl e__law_plan (show NoNx m__law_plan by unfold m__law_plan; repeat first | exact nn_ret | apply nn_seq) fun f cdv A outer s H E C =>
    (ss_consO (set1 C 4 (n_v (v_bin (b_val v_int) (b_val (draw C 0 (go__law_draw T) (by first | decide | omega) (a_cons (nm 1) a_nil) (fun ss ds ss' h => congrArg (· + 1) ((mCons_len mNil_len) ss ds ss' h)))) (s_add C)))) (by repeat first | exact nr_set | exact nr_append | apply nr_for | apply nr_seq) (by first | exact nb_set | exact nb_for)
    (ss_consO (set1 C 5 (n_o (o_lst a_nil))) (by repeat first | exact nr_set | exact nr_append | apply nr_for | apply nr_seq) (by first | exact nb_set | exact nb_for)
    (ss_consO (s_for C (i_rng1 C (a_cons (draw C 0 (go__law_draw T) (by first | decide | omega) (a_cons (v_bin (bn 2) (b_val v_int) (s_add C)) a_nil) (fun ss ds ss' h => congrArg (· + 1) ((mCons_len mNil_len) ss ds ss' h))) a_nil) (by intro _; rfl) T.b_range) (gn C 6) (ss_cons (set1 C 8 (n_v (draw C 0 (go__law_draw T) (by first | decide | omega) (a_cons (nm 4) a_nil) (fun ss ds ss' h => congrArg (· + 1) ((mCons_len mNil_len) ss ds ss' h)))))
    (ss_one (app1 C 5 (v_tup (a_cons (nm 8) (a_cons (draw C 0 (go__law_word T) (by first | decide | omega) (a_cons v_str (a_cons (nm 3) a_nil)) (fun ss ds ss' h => congrArg (· + 1) ((mCons_len (mCons_len mNil_len)) ss ds ss' h))) (a_cons (draw C 0 (go__law_word T) (by first | decide | omega) (a_cons v_str (a_cons (nm 3) a_nil)) (fun ss ds ss' h => congrArg (· + 1) ((mCons_len (mCons_len mNil_len)) ss ds ss' h))) (a_cons (draw C 0 (go__law_draw T) (by first | decide | omega) (a_cons (nm 4) a_nil) (fun ss ds ss' h => congrArg (· + 1) ((mCons_len mNil_len) ss ds ss' h))) a_nil))))))))) (by repeat first | exact nr_set | exact nr_append | apply nr_for | apply nr_seq) (by first | exact nb_set | exact nb_for)
    (ss_consO (set1 C 7 (n_v (v_buT C (u_tuple C) (bs_cons (b_val (v_new (o_lc C (fun _ => bo_191_23) (i_rng1 C (a_cons (nm 4) a_nil) (by intro _; rfl) T.b_range) (gn (C.blk cs_191_23) 9) (ts_one (t_cmp (b_val (draw (C.blk cs_191_23) 0 (go__law_draw T) (by first | decide | omega) (a_cons v_int a_nil) (fun ss ds ss' h => congrArg (· + 1) ((mCons_len mNil_len) ss ds ss' h)))) (b_val v_int) (c_eqA (C.blk cs_191_23)) rfl)) (nm 9)))) bs_nil) (by intro _; rfl) T.b_tuple (by decide +kernel)))) (by repeat first | exact nr_set | exact nr_append | apply nr_for | apply nr_seq) (by first | exact nb_set | exact nb_for)
    (ss_retO (o_disp (ds_cons v_str (nm 4) (ds_cons v_str (v_buT C (u_tuple C) (bs_cons (b_val (v_new (o_lc C (fun _ => bo_192_43) (i_rng1 C (a_cons (nm 4) a_nil) (by intro _; rfl) T.b_range) (gn (C.blk cs_192_43) 9) (ts_one (t_cmp (b_val (draw (C.blk cs_192_43) 0 (go__law_draw T) (by first | decide | omega) (a_cons v_int a_nil) (fun ss ds ss' h => congrArg (· + 1) ((mCons_len mNil_len) ss ds ss' h)))) (b_val v_int) (c_eqA (C.blk cs_192_43)) rfl)) (nm 9)))) bs_nil) (by intro _; rfl) T.b_tuple (by decide +kernel)) (ds_cons v_str (nm 5) (ds_cons v_str (nm 7) ds_nil))))))))))
end

theorem sc_is_integer : FnScope ["thing"] ["thing"] (defScope s_is_integer) := ⟨rfl, rfl, rfl, by decide +kernel, rfl, by decide +kernel, by decide +kernel⟩
abbrev N_is_integer : List Str := ["thing"]
def m_is_integer : SS → SO := (mRet (vAnd (mIsi "int" (mBor 0)) (vNot (mIsi "bool" (mBor 0)))))
def G_is_integer : List Dt → Res Dt := fun ds => outF (m_is_integer (startS N_is_integer ds))
theorem e_is_integer (ds : List Dt) (h : ds.length = 1) : outF (m_is_integer (startS N_is_integer ds)) = G_is_integer ds ∨ G_is_integer ds = .no := .inl rfl
theorem q_ii (i : Int) : G_is_integer [.int i] = .ok (.bool true) := ii_all i
section
variable {P : Program} {w : World} {K : PySem.W.Frag} {mg : Str → Option Value} {base : Heap}
theorem go_is_integer (T : Top w K mg) : Go P w K mg base 1 "is_integer" s_is_integer ["thing"] (spF K mg 1 G_is_integer) := go_pure T.hw T.d_is_integer sc_is_integer (by decide) rfl e_is_integer fun f cdv A outer s H E C =>
    (ss_one (s_ret (v_and (v_isi C (bn 0) (by intro _; rfl) T.b_isinstance (by intro _; rfl) T.b_int (by decide +kernel)) (v_one (v_not (v_isi C (bn 0) (by intro _; rfl) T.b_isinstance (by intro _; rfl) T.b_bool (by decide +kernel)))))))
end

theorem sc_is_index : FnScope ["many", "thing"] ["many", "thing"] (defScope s_is_index) := ⟨rfl, rfl, rfl, by decide +kernel, rfl, by decide +kernel, by decide +kernel⟩
abbrev N_is_index : List Str := ["many", "thing"]
def m_is_index : SS → SO := (mRet (vAnd (mRes G_is_integer (mCons (mVar 1) mNil)) (mBl (mChain fLe fLt (mB (mC (.int 0))) (mBor 1) (mBor 0)))))
def G_is_index : List Dt → Res Dt := fun ds => outF (m_is_index (startS N_is_index ds))
theorem e_is_index (ds : List Dt) (h : ds.length = 2) : outF (m_is_index (startS N_is_index ds)) = G_is_index ds ∨ G_is_index ds = .no := .inl rfl
theorem q_ix (n s : Nat) : G_is_index [.int n, .int s] = .ok (.bool (decide (s < n))) := ix_all q_ii n s
section
variable {P : Program} {w : World} {K : PySem.W.Frag} {mg : Str → Option Value} {base : Heap}
theorem go_is_index (T : Top w K mg) : Go P w K mg base 2 "is_index" s_is_index ["many", "thing"] (spF K mg 2 G_is_index) := go_pure T.hw T.d_is_index sc_is_index (by decide) rfl e_is_index fun f cdv A outer s H E C =>
    (ss_one (s_ret (v_and (call C (go_is_integer T) (by first | decide | omega) rfl (a_cons (nm 1) a_nil) (mCons_len mNil_len)) (v_one (v_chain (b_val v_int) (bn 1) (bn 0) c_le c_lt)))))
end

theorem sc_are_states : FnScope ["many", "thing", "one", "other", "state"] ["many", "thing"] (defScope s_are_states) := ⟨rfl, rfl, rfl, by decide +kernel, rfl, by decide +kernel, by decide +kernel⟩
def cs_25_47 : Scope := { kind := PySem.ScopeKind.function, names := [ (PySem.Str.ofString ".0", PySem.NameKind.local), (PySem.Str.ofString "state", PySem.NameKind.local), (PySem.Str.ofString "is_index", PySem.NameKind.globalImplicit), (PySem.Str.ofString "many", PySem.NameKind.free)], isGenerator := false, isCoroutine := false, more := [] : PySem.Scope }
theorem bo_25_47 : BlkOk ["many", "thing", "one", "other", "state"] (defScope s_are_states) cs_25_47 [("state", 4)] := ⟨rfl, by decide, by decide, by decide, by decide⟩
def cs_27_15 : Scope := { kind := PySem.ScopeKind.function, names := [ (PySem.Str.ofString ".0", PySem.NameKind.local), (PySem.Str.ofString "one", PySem.NameKind.local), (PySem.Str.ofString "other", PySem.NameKind.local)], isGenerator := false, isCoroutine := false, more := [] : PySem.Scope }
theorem bo_27_15 : BlkOk ["many", "thing", "one", "other", "state"] (defScope s_are_states) cs_27_15 [("one", 2), ("other", 3)] := ⟨rfl, by decide, by decide, by decide, by decide⟩
abbrev N_are_states : List Str := ["many", "thing", "one", "other", "state"]
def m_are_states : SS → SO := (mSeq (mIfS (mOr (mNot (toB (mIsi "tuple" (mBor 1)))) (mNot (toB (mBu fAll (mConsB (mB (mLc (mItems (mVar 1)) [4] (gNm 4) mYes (mRes G_is_index (mCons (mVar 0) (mCons (mVar 4) mNil))))) mNilB))))) (mRet (mC (.bool false))) .nx)
    (mRet (mBu fAll (mConsB (mB (mLc (mZip (mCons (mVar 1) (mCons (mSl (mBor 1) (mPart (mC (.int 1))) mPart0) mNil))) [2, 3] (gTupV 2 (gConsV (gNm 2) (gConsV (gNm 3) gNilV))) mYes (mBl (mCmp fLt (mBor 2) (mBor 3))))) mNilB))))
def G_are_states : List Dt → Res Dt := fun ds => outF (m_are_states (startS N_are_states ds))
theorem e_are_states (ds : List Dt) (h : ds.length = 2) : outF (m_are_states (startS N_are_states ds)) = G_are_states ds ∨ G_are_states ds = .no := .inl rfl
theorem q_as {n : Nat} {l : List Nat} (S : StOk n l) : G_are_states [.int n, natsD l] = .ok (.bool true) := as_all (q_ix n) S
section
variable {P : Program} {w : World} {K : PySem.W.Frag} {mg : Str → Option Value} {base : Heap}
theorem go_are_states (T : Top w K mg) : Go P w K mg base 3 "are_states" s_are_states ["many", "thing"] (spF K mg 2 G_are_states) := go_pure T.hw T.d_are_states sc_are_states (by decide) rfl e_are_states fun f cdv A outer s H E C =>
    (ss_cons (s_if (t_w (w_or (t_not (t_val (v_isi C (bn 1) (by intro _; rfl) T.b_isinstance (by intro _; rfl) T.b_tuple (by decide +kernel)))) (w_or1 (t_not (t_val (v_bu C (u_all C) (bs_cons (b_val (v_new (o_lc C (fun _ => bo_25_47) (i_sq C (nm 1)) (gn (C.blk cs_25_47) 4) ts_nil (call (C.blk cs_25_47) (go_is_index T) (by first | decide | omega) rfl (a_cons (nm 0) (a_cons (nm 4) a_nil)) (mCons_len (mCons_len mNil_len)))))) bs_nil) (by intro _; rfl) T.b_all (by decide +kernel))))))) (ss_one (s_ret v_bl)) ss_nil)
    (ss_one (s_ret (v_bu C (u_all C) (bs_cons (b_val (v_new (o_lc C (fun _ => bo_27_15) (i_zip C (a_cons (nm 1) (a_cons (v_slice C (bn 1) (p_some v_int) p_none) a_nil)) (by intro _; rfl) T.b_zip) (g_tup (C.blk cs_27_15) (gs_cons (gn (C.blk cs_27_15) 2) (gs_cons (gn (C.blk cs_27_15) 3) gs_nil))) ts_nil (v_cmp (bn 2) (bn 3) c_lt rfl)))) bs_nil) (by intro _; rfl) T.b_all (by decide +kernel)))))
end

theorem sc_is_text : FnScope ["thing", "letter"] ["thing"] (defScope s_is_text) := ⟨rfl, rfl, rfl, by decide +kernel, rfl, by decide +kernel, by decide +kernel⟩
def cs_29_42 : Scope := { kind := PySem.ScopeKind.function, names := [ (PySem.Str.ofString ".0", PySem.NameKind.local), (PySem.Str.ofString "letter", PySem.NameKind.local), (PySem.Str.ofString "LETTERS", PySem.NameKind.globalImplicit)], isGenerator := false, isCoroutine := false, more := [] : PySem.Scope }
theorem bo_29_42 : BlkOk ["thing", "letter"] (defScope s_is_text) cs_29_42 [("letter", 1)] := ⟨rfl, by decide, by decide, by decide, by decide⟩
abbrev N_is_text : List Str := ["thing", "letter"]
def m_is_text : SS → SO := (mRet (vAnd (mIsi "str" (mBor 0)) (mBu fAll (mConsB (mB (mLc (mItems (mVar 0)) [1] (gNm 1) mYes (mBl (mCmp fInA (mBor 1) (mB (mC (.str "abcdefghijklmnopqrstuvwxyz"))))))) mNilB))))
def G_is_text : List Dt → Res Dt := fun ds => outF (m_is_text (startS N_is_text ds))
theorem e_is_text (ds : List Dt) (h : ds.length = 1) : outF (m_is_text (startS N_is_text ds)) = G_is_text ds ∨ G_is_text ds = .no := .inl rfl
theorem q_it {z : Str} (h : letW z = true) : G_is_text [.str z] = .ok (.bool true) := by
  unfold letW at h
  rw [Bool.and_eq_true] at h
  exact it_all (Nat.le_trans (of_decide_eq_true h.2) (by decide)) h.1
section
variable {P : Program} {w : World} {K : PySem.W.Frag} {mg : Str → Option Value} {base : Heap}
theorem go_is_text (T : Top w K mg) : Go P w K mg base 1 "is_text" s_is_text ["thing"] (spF K mg 1 G_is_text) := go_pure T.hw T.d_is_text sc_is_text (by decide) rfl e_is_text fun f cdv A outer s H E C =>
    (ss_one (s_ret (v_and (v_isi C (bn 0) (by intro _; rfl) T.b_isinstance (by intro _; rfl) T.b_str (by decide +kernel)) (v_one (v_bu C (u_all C) (bs_cons (b_val (v_new (o_lc C (fun _ => bo_29_42) (i_sq C (nm 0)) (gn (C.blk cs_29_42) 1) ts_nil (v_cmp (bn 1) (b_val (gstr (C.blk cs_29_42) T.c_LETTERS)) (c_inA (C.blk cs_29_42)) rfl)))) bs_nil) (by intro _; rfl) T.b_all (by decide +kernel))))))
end

theorem sc_is_move : FnScope ["size", "thing", "state", "left", "right", "further"] ["size", "thing"] (defScope s_is_move) := ⟨rfl, rfl, rfl, by decide +kernel, rfl, by decide +kernel, by decide +kernel⟩
abbrev N_is_move : List Str := ["size", "thing", "state", "left", "right", "further"]
def m_is_move : SS → SO := (mSeq (mIfS (mOr (mNot (toB (mIsi "tuple" (mBor 1)))) (mCmp fNeA (mB (mBu fLen (mConsB (mBor 1) mNilB))) (mB (mC (.int 4))))) (mRet (mC (.bool false))) .nx)
    (mSeq (mAsg (gTupV 4 (gConsV (gNm 2) (gConsV (gNm 3) (gConsV (gNm 4) (gConsV (gNm 5) gNilV))))) (mVar 1))
    (mRet (vAnd (mRes G_is_index (mCons (mVar 0) (mCons (mVar 2) mNil))) (vAnd (mRes G_is_text (mCons (mVar 3) mNil)) (vAnd (mRes G_is_text (mCons (mVar 4) mNil)) (mRes G_is_index (mCons (mVar 0) (mCons (mVar 5) mNil)))))))))
def G_is_move : List Dt → Res Dt := fun ds => outF (m_is_move (startS N_is_move ds))
theorem e_is_move (ds : List Dt) (h : ds.length = 2) : outF (m_is_move (startS N_is_move ds)) = G_is_move ds ∨ G_is_move ds = .no := .inl rfl
theorem q_im {n : Nat} {m : Mv} (hp : m.p < n) (hq : m.q < n) (hu : letW m.u = true) (hv : letW m.v = true) : G_is_move [.int n, mvD m] = .ok (.bool true) := im_all (q_ix n) (fun z h => q_it h) hp hq hu hv
section
variable {P : Program} {w : World} {K : PySem.W.Frag} {mg : Str → Option Value} {base : Heap}
theorem go_is_move (T : Top w K mg) : Go P w K mg base 3 "is_move" s_is_move ["size", "thing"] (spF K mg 2 G_is_move) := go_pure T.hw T.d_is_move sc_is_move (by decide) rfl e_is_move fun f cdv A outer s H E C =>
    (ss_cons (s_if (t_w (w_or (t_not (t_val (v_isi C (bn 1) (by intro _; rfl) T.b_isinstance (by intro _; rfl) T.b_tuple (by decide +kernel)))) (w_or1 (t_cmp (b_val (v_bu C (u_len C) (bs_cons (bn 1) bs_nil) (by intro _; rfl) T.b_len (by decide +kernel))) (b_val (gint C T.c_PARTS)) (c_neA C) rfl)))) (ss_one (s_ret v_bl)) ss_nil)
    (ss_cons (s_asg (g_tup C (gs_cons (gn C 2) (gs_cons (gn C 3) (gs_cons (gn C 4) (gs_cons (gn C 5) gs_nil))))) (nm 1))
    (ss_one (s_ret (v_and (call C (go_is_index T) (by first | decide | omega) rfl (a_cons (nm 0) (a_cons (nm 2) a_nil)) (mCons_len (mCons_len mNil_len))) (v_and (call C (go_is_text T) (by first | decide | omega) rfl (a_cons (nm 3) a_nil) (mCons_len mNil_len)) (v_and (call C (go_is_text T) (by first | decide | omega) rfl (a_cons (nm 4) a_nil) (mCons_len mNil_len)) (v_one (call C (go_is_index T) (by first | decide | omega) rfl (a_cons (nm 0) (a_cons (nm 5) a_nil)) (mCons_len (mCons_len mNil_len)))))))))))
end

theorem sc_Pacer___init__ : FnScope ["self", "size", "begins", "moves", "ends", "move"] ["self", "size", "begins", "moves", "ends"] (defScope s_Pacer___init__) := ⟨rfl, rfl, rfl, by decide +kernel, rfl, by decide +kernel, by decide +kernel⟩
def cs_102_51 : Scope := { kind := PySem.ScopeKind.function, names := [ (PySem.Str.ofString ".0", PySem.NameKind.local), (PySem.Str.ofString "move", PySem.NameKind.local), (PySem.Str.ofString "is_move", PySem.NameKind.globalImplicit), (PySem.Str.ofString "size", PySem.NameKind.free)], isGenerator := false, isCoroutine := false, more := [] : PySem.Scope }
theorem bo_102_51 : BlkOk ["self", "size", "begins", "moves", "ends", "move"] (defScope s_Pacer___init__) cs_102_51 [("move", 5)] := ⟨rfl, by decide, by decide, by decide, by decide⟩
abbrev N_Pacer___init__ : List Str := ["self", "size", "begins", "moves", "ends", "move"]
def m_Pacer___init__ : SS → SO := (mSeq (mIfS (mOr (mNot (toB (mRes G_is_integer (mCons (mVar 1) mNil)))) (mCmp fLt (mBor 1) (mB (mC (.int 1))))) (fun _ => .no) .nx)
    (mSeq (mIfS (mNot (toB (mRes G_are_states (mCons (mVar 1) (mCons (mVar 2) mNil))))) (fun _ => .no) .nx)
    (mSeq (mIfS (mOr (mNot (toB (mIsi "tuple" (mBor 3)))) (mNot (toB (mBu fAll (mConsB (mB (mLc (mItems (mVar 3)) [5] (gNm 5) mYes (mRes G_is_move (mCons (mVar 1) (mCons (mVar 5) mNil))))) mNilB))))) (fun _ => .no) .nx)
    (mSeq (mIfS (mNot (toB (mRes G_are_states (mCons (mVar 1) (mCons (mVar 4) mNil))))) (fun _ => .no) .nx)
    (mSeq (mSetF 0 "Pacer" "size" (mVar 1))
    (mSeq (mSetF 0 "Pacer" "begins" (mVar 2))
    (mSeq (mSetF 0 "Pacer" "moves" (mVar 3))
    (mSetF 0 "Pacer" "ends" (mVar 4)))))))))
theorem n_Pacer___init__ : NtS m_Pacer___init__ := by
  unfold m_Pacer___init__
  repeat first | apply ns_Seq | apply ns_Ret | apply ns_If | apply ns_Set | apply ns_Par | apply ns_Append | apply ns_Asg | apply ns_For | apply ns_Drop | apply ns_DkSet | apply ns_DkApp | apply nts_nx | apply nts_bk | apply nts_ct | apply nts_rt | apply nt_Fz | apply nt_Ow | apply nt_C | apply nt_Var | apply nt_Bor | apply nt_B | apply nt_Nil | apply nt_Cons | apply nt_NilB | apply nt_ConsB | apply nt_Tup | apply nt_Lst | apply nt_Cmp | apply nt_Bl | apply nt_Chain | apply nt_toB | apply nt_Not | apply nt_And | apply nt_Or | apply nt_vAnd | apply nt_vOr | apply nt_vNot | apply nt_If | apply nt_Bin | apply nt_Neg | apply nt_ResK | apply nt_Res | apply nt_Bu | apply nt_Ou | apply nt_Isi | apply nt_Part0 | apply nt_Part | apply nt_Sl | apply nt_SlL | apply nt_Rev | apply nt_Dict0 | apply nt_M1 | apply nt_M0 | apply nt_Mn | apply nt_Draw | apply ng_Nm | apply ng_Nil | apply ng_Cons | apply ng_Tup | apply nt_Items | apply nt_Rng1 | apply nt_Rng2 | apply nt_Enum | apply nt_Zip | apply nt_Yes | apply nt_Lc | apply nt_DkI | apply nt_DkNe | apply nt_DkPop | apply nt_fun_no | apply nts_fun_no | apply nt_or | apply nt_Fld | apply nt_Make | apply nt_Meth | apply nt_EqI | apply nt_NeI | apply nt_BinI | apply nt_IsO | apply nt_DNil | apply nt_DCons | apply nt_Disp | apply ns_Put | apply nt_Pop | apply ns_Extend | apply nt_NNil | apply nt_NCons | apply ns_ParT | apply ns_SetF | apply nt_Dc
def G_Pacer___init__ : Dt → List Dt → RsS := fun d0 ds => outZ (m_Pacer___init__ (startE 0 d0 N_Pacer___init__ ds))
theorem e_Pacer___init__ (a : Addr) (d0 : Dt) (ds : List Dt) (h : ds.length + 1 = 5) : outS a (m_Pacer___init__ (startE a d0 N_Pacer___init__ ds)) = G_Pacer___init__ d0 ds ∨ G_Pacer___init__ d0 ds = .no := .inl (nt_se n_Pacer___init__)
theorem q_in {n : Nat} {b e : List Nat} {mv : List Mv} (P : PcOk n b mv e) : G_Pacer___init__ (ins "Pacer" [] []) [.int n, natsD b, .tuple (mv.map mvD), natsD e] = .ok .none (pcD n b mv e) :=
  in_all P q_ii (fun l S => q_as S) (fun m hm => q_im (P.hm m hm).1 (P.hm m hm).2.1 (P.hm m hm).2.2.1 (P.hm m hm).2.2.2)
section
variable {P : Program} {w : World} {K : PySem.W.Frag} {mg : Str → Option Value} {base : Heap}
theorem go_Pacer___init__ (T : Top w K mg) : Gi P w K mg base 4 "Pacer" "Pacer.__init__" s_Pacer___init__ ["self", "size", "begins", "moves", "ends"] (spS K mg 5 G_Pacer___init__) := gi_init T.hw T.d_Pacer___init__ sc_Pacer___init__ (by decide) rfl e_Pacer___init__ fun f cdv A outer s H E C =>
    (ss_cons (s_if (t_w (w_or (t_not (t_val (call C (go_is_integer T) (by first | decide | omega) rfl (a_cons (nm 1) a_nil) (mCons_len mNil_len)))) (w_or1 (t_cmp (bn 1) (b_val v_int) c_lt rfl)))) (ss_one s_no) ss_nil)
    (ss_cons (s_if (t_not (t_val (call C (go_are_states T) (by first | decide | omega) rfl (a_cons (nm 1) (a_cons (nm 2) a_nil)) (mCons_len (mCons_len mNil_len))))) (ss_one s_no) ss_nil)
    (ss_cons (s_if (t_w (w_or (t_not (t_val (v_isi C (bn 3) (by intro _; rfl) T.b_isinstance (by intro _; rfl) T.b_tuple (by decide +kernel)))) (w_or1 (t_not (t_val (v_bu C (u_all C) (bs_cons (b_val (v_new (o_lc C (fun _ => bo_102_51) (i_sq C (nm 3)) (gn (C.blk cs_102_51) 5) ts_nil (call (C.blk cs_102_51) (go_is_move T) (by first | decide | omega) rfl (a_cons (nm 1) (a_cons (nm 5) a_nil)) (mCons_len (mCons_len mNil_len)))))) bs_nil) (by intro _; rfl) T.b_all (by decide +kernel))))))) (ss_one s_no) ss_nil)
    (ss_cons (s_if (t_not (t_val (call C (go_are_states T) (by first | decide | omega) rfl (a_cons (nm 1) (a_cons (nm 4) a_nil)) (mCons_len (mCons_len mNil_len))))) (ss_one s_no) ss_nil)
    (ss_cons (s_setF C 0 T.k_Pacer (by decide) (nm 1))
    (ss_cons (s_setF C 0 T.k_Pacer (by decide) (nm 2))
    (ss_cons (s_setF C 0 T.k_Pacer (by decide) (nm 3))
    (ss_one (s_setF C 0 T.k_Pacer (by decide) (nm 4))))))))))
end

theorem sc__law_code : FnScope ["_law_w"] ["_law_w"] (defScope s__law_code) := ⟨rfl, rfl, rfl, by decide +kernel, rfl, by decide +kernel, by decide +kernel⟩
abbrev N__law_code : List Str := ["_law_w"]
def m__law_code : SS → SO := (mRet (mMake "Pacer" G_Pacer___init__ (mCons (mBin fDGet (mBor 0) (mB (mC (.str "wide")))) (mCons (mBin fDGet (mBor 0) (mB (mC (.str "in")))) (mCons (mBu fTup (mConsB (mB (mBin fDGet (mBor 0) (mB (mC (.str "ways"))))) mNilB)) (mCons (mBin fDGet (mBor 0) (mB (mC (.str "out")))) mNil))))))
def G__law_code : List Dt → Res Dt := fun ds => outF (m__law_code (startS N__law_code ds))
theorem e__law_code (ds : List Dt) (h : ds.length = 1) : outF (m__law_code (startS N__law_code ds)) = G__law_code ds ∨ G__law_code ds = .no := .inl rfl
theorem q_code {n : Nat} {b e : List Nat} {mv : List Mv} (P : PcOk n b mv e) : G__law_code [wD n b mv e] = .ok (pcD n b mv e) := by
  unfold G__law_code
  have ft : fTup [.list (mv.map mvD)] = some (.tuple (mv.map mvD)) := fTup_l _
  simp only [m__law_code, N__law_code, startS, mRet, mMake, mCons, mBin, mBor, mB, mC, mBu, mConsB, mNilB, mNil, EO.bind, EO.st, EO.lift, two, Opd.get, opsGet, List.map_cons, List.map_nil, List.cons_append, List.nil_append, List.getElem?_cons_zero, w_wide, w_in, w_ways, w_out, Option.bind, ft, q_in P, outF]
section
variable {P : Program} {w : World} {K : PySem.W.Frag} {mg : Str → Option Value} {base : Heap}
theorem go__law_code (T : Top w K mg) : Go P w K mg base 6 "_law_code" s__law_code ["_law_w"] (spF K mg 1 G__law_code) := go_pure T.hw T.d__law_code sc__law_code (by decide) rfl e__law_code fun f cdv A outer s H E C =>
    (ss_one (s_ret (v_make C T.k_Pacer (go_Pacer___init__ T) (by first | decide | omega) (a_cons (v_dget C (bn 0) (b_val v_str)) (a_cons (v_dget C (bn 0) (b_val v_str)) (a_cons (v_buT C (u_tuple C) (bs_cons (b_val (v_dget C (bn 0) (b_val v_str))) bs_nil) (by intro _; rfl) T.b_tuple (by decide +kernel)) (a_cons (v_dget C (bn 0) (b_val v_str)) a_nil)))) (fun ss ds ss' h => congrArg (· + 1) ((mCons_len (mCons_len (mCons_len (mCons_len mNil_len)))) ss ds ss' h)))))
end

theorem sc__law_ways : FnScope ["_law_w", "_law_top", "_law_turn", "_law_found", "_law_last", "_law_fresh", "_law_some", "_law_here", "_law_k", "_law_at", "_law_way"] ["_law_w", "_law_top"] (defScope s__law_ways) := ⟨rfl, rfl, rfl, by decide +kernel, rfl, by decide +kernel, by decide +kernel⟩
def cs_202_29 : Scope := { kind := PySem.ScopeKind.function, names := [(PySem.Str.ofString ".0", PySem.NameKind.local), (PySem.Str.ofString "_law_k", PySem.NameKind.local)], isGenerator := false, isCoroutine := false, more := [] : PySem.Scope }
theorem bo_202_29 : BlkOk ["_law_w", "_law_top", "_law_turn", "_law_found", "_law_last", "_law_fresh", "_law_some", "_law_here", "_law_k", "_law_at", "_law_way"] (defScope s__law_ways) cs_202_29 [("_law_k", 8)] := ⟨rfl, by decide, by decide, by decide, by decide⟩
def cs_202_72 : Scope := { kind := PySem.ScopeKind.function, names := [(PySem.Str.ofString ".0", PySem.NameKind.local), (PySem.Str.ofString "_law_k", PySem.NameKind.local)], isGenerator := false, isCoroutine := false, more := [] : PySem.Scope }
theorem bo_202_72 : BlkOk ["_law_w", "_law_top", "_law_turn", "_law_found", "_law_last", "_law_fresh", "_law_some", "_law_here", "_law_k", "_law_at", "_law_way"] (defScope s__law_ways) cs_202_72 [("_law_k", 8)] := ⟨rfl, by decide, by decide, by decide, by decide⟩
def cs_206_30 : Scope := { kind := PySem.ScopeKind.function, names := [ (PySem.Str.ofString ".0", PySem.NameKind.local), (PySem.Str.ofString "_law_at", PySem.NameKind.local), (PySem.Str.ofString "_law_way", PySem.NameKind.local), (PySem.Str.ofString "_law_here", PySem.NameKind.free), (PySem.Str.ofString "_law_some", PySem.NameKind.free)], isGenerator := false, isCoroutine := false, more := [] : PySem.Scope }
theorem bo_206_30 : BlkOk ["_law_w", "_law_top", "_law_turn", "_law_found", "_law_last", "_law_fresh", "_law_some", "_law_here", "_law_k", "_law_at", "_law_way"] (defScope s__law_ways) cs_206_30 [("_law_at", 9), ("_law_way", 10)] := ⟨rfl, by decide, by decide, by decide, by decide⟩
abbrev N__law_ways : List Str := ["_law_w", "_law_top", "_law_turn", "_law_found", "_law_last", "_law_fresh", "_law_some", "_law_here", "_law_k", "_law_at", "_law_way"]
def m__law_ways : SS → SO := (mSeq (mPar 3 4 (mOw (mLc (mItems (mBin fDGet (mBor 0) (mB (mC (.str "in"))))) [8] (gNm 8) mYes (mTup (mCons (mTup mNil) (mCons (mVar 8) mNil))))) (mOw (mLc (mItems (mBin fDGet (mBor 0) (mB (mC (.str "in"))))) [8] (gNm 8) mYes (mTup (mCons (mTup mNil) (mCons (mVar 8) mNil))))))
    (mSeq (mFor (mRng1 (mCons (mVar 1) mNil)) (gNm 2) (mSeq (mSet 5 (mOw (mLst mNil)))
    (mSeq (mFor (mItems (mOu fList (mConsB (mBor 4) mNilB))) (gTupV 2 (gConsV (gNm 6) (gConsV (gNm 7) gNilV))) (mExtend 5 (mLc (mEnum (mCons (mBin fDGet (mBor 0) (mB (mC (.str "ways")))) mNil)) [9, 10] (gTupV 2 (gConsV (gNm 9) (gConsV (gNm 10) gNilV))) (mCmp fEqA (mB (mBin fIx (mBor 10) (mB (mC (.int 0))))) (mBor 7)) (mTup (mCons (mBin gAdd (mBor 6) (mB (mTup (mCons (mVar 9) mNil)))) (mCons (mBin fIx (mBor 10) (mB (mC (.int 3)))) mNil))))))
    (mSeq (mSet 4 (mOw (mOu fList (mConsB (mBor 5) mNilB))))
    (mSet 3 (mFz (mBin gAdd (mBor 3) (mBor 4))))))))
    (mRet (mVar 3))))
def G__law_ways : List Dt → Res Dt := fun ds => outF (m__law_ways (startS N__law_ways ds))
theorem e__law_ways (ds : List Dt) (h : ds.length = 2) : outF (m__law_ways (startS N__law_ways ds)) = G__law_ways ds ∨ G__law_ways ds = .no := .inl rfl
abbrev Wy := List Nat × Nat
def wyD (w : Wy) : Dt := .tuple [natsD w.1, .int (w.2 : Nat)]
def enD (p : Mv × Nat) : Dt := .tuple [.int (p.2 : Nat), mvD p.1]
def ons (mv : List Mv) (w : Wy) : List Wy := ((mv.zipIdx).filter fun p => decide (p.1.p = w.2)).map fun p => (w.1 ++ [p.2], p.1.q)
def wys (mv : List Mv) (l : List Wy) : Nat → List Wy
  | 0 => l
  | k + 1 => (wys mv l k).flatMap (ons mv)
def alls (mv : List Mv) (l : List Wy) : Nat → List Wy
  | 0 => l
  | k + 1 => alls mv l k ++ wys mv l (k + 1)
theorem enumD_mv : ∀ (i : Nat) (l : List Mv), enumD i (l.map mvD) = (l.zipIdx i).map enD
  | _, [] => rfl
  | i, m :: l => congrArg (enD (m, i) :: ·) (enumD_mv (i + 1) l)
theorem e_EnumW {S S1 : SS} {m : SS → EO (List Dt)} {mv : List Mv} (h : m S = .ok [.list (mv.map mvD)] S1) : mEnum m S = .ok (mv.zipIdx.map enD) S1 := by
  unfold mEnum
  rw [h, ← enumD_mv 0 mv]
  rfl
theorem ons_len (mv : List Mv) (w : Wy) : (ons mv w).length ≤ mv.length := by
  unfold ons
  rw [List.length_map]
  have := List.length_filter_le (fun p : Mv × Nat => decide (p.1.p = w.2)) mv.zipIdx
  rwa [List.length_zipIdx] at this
theorem fm_len {α β : Type} {f : α → List β} {n : Nat} (h : ∀ a, (f a).length ≤ n) : ∀ l : List α, (l.flatMap f).length ≤ l.length * n
  | [] => by simp
  | a :: l => by
    have := fm_len h l
    have := h a
    rw [List.flatMap_cons, List.length_append, List.length_cons, Nat.succ_mul]
    omega
theorem wys_deep {mv : List Mv} {b : List Nat} : ∀ k, ∀ w ∈ wys mv (b.map fun s => ([], s)) k, w.1.length = k ∧ ∀ i ∈ w.1, i < mv.length
  | 0, w, h => by
    obtain ⟨s, _, rfl⟩ := List.mem_map.mp h
    exact ⟨rfl, fun i hi => absurd hi List.not_mem_nil⟩
  | k + 1, w, h => by
    obtain ⟨w0, h0, h1⟩ := List.mem_flatMap.mp h
    obtain ⟨p, hp, rfl⟩ := List.mem_map.mp h1
    obtain ⟨i1, i2⟩ := wys_deep k w0 h0
    refine ⟨by rw [List.length_append, List.length_singleton, i1], fun i hi => ?_⟩
    rcases List.mem_append.mp hi with hi | hi
    · exact i2 i hi
    · rw [List.mem_singleton.mp hi]
      have := List.mem_zipIdx (List.mem_filter.mp hp).1
      omega
theorem alls_mem {mv : List Mv} {l : List Wy} {w : Wy} : ∀ k, w ∈ alls mv l k ↔ ∃ j, j ≤ k ∧ w ∈ wys mv l j
  | 0 => ⟨fun h => ⟨0, Nat.le_refl _, h⟩, fun ⟨j, hj, h⟩ => by
    obtain rfl : j = 0 := by omega
    exact h⟩
  | k + 1 => by
    rw [alls, List.mem_append, alls_mem k]
    constructor
    · rintro (⟨j, hj, h⟩ | h)
      · exact ⟨j, by omega, h⟩
      · exact ⟨k + 1, Nat.le_refl _, h⟩
    · rintro ⟨j, hj, h⟩
      by_cases e : j = k + 1
      · subst e; exact .inr h
      · exact .inl ⟨j, by omega, h⟩
theorem wys_len {mv : List Mv} {l : List Wy} (hm : mv.length ≤ 5) (hl : l.length ≤ 3) : (wys mv l 0).length ≤ 3 ∧ (wys mv l 1).length ≤ 15 ∧ (wys mv l 2).length ≤ 75 ∧ (wys mv l 3).length ≤ 375 ∧ (wys mv l 4).length ≤ 1875 := by
  have f : ∀ w, (ons mv w).length ≤ 5 := fun w => Nat.le_trans (ons_len mv w) hm
  have h1 : (wys mv l 1).length ≤ (wys mv l 0).length * 5 := fm_len f _
  have h2 : (wys mv l 2).length ≤ (wys mv l 1).length * 5 := fm_len f _
  have h3 : (wys mv l 3).length ≤ (wys mv l 2).length * 5 := fm_len f _
  have h4 : (wys mv l 4).length ≤ (wys mv l 3).length * 5 := fm_len f _
  have h0 : (wys mv l 0).length ≤ 3 := hl
  omega
theorem wys_le {mv : List Mv} {l : List Wy} (hm : mv.length ≤ 5) (hl : l.length ≤ 3) {k : Nat} (hk : k ≤ 4) : (wys mv l k).length ≤ 1875 := by
  obtain ⟨h0, h1, h2, h3, h4⟩ := wys_len hm hl
  match k, hk with
  | 0, _ => omega
  | 1, _ => omega
  | 2, _ => omega
  | 3, _ => omega
  | 4, _ => omega
theorem alls_le {mv : List Mv} {l : List Wy} (hm : mv.length ≤ 5) (hl : l.length ≤ 3) {k : Nat} (hk : k ≤ 4) : (alls mv l k).length ≤ (k + 1) * 1875 := by
  induction k with
  | zero => exact Nat.le_trans hl (by omega)
  | succ k ih =>
    have := ih (by omega)
    have := wys_le (mv := mv) (l := l) hm hl hk
    rw [alls, List.length_append]
    omega
theorem q_ways {n : Nat} {b e : List Nat} {mv : List Mv} (hb : b.length ≤ 3) (hm : mv.length ≤ 5) : G__law_ways [wD n b mv e, .int 4] = .ok (.list ((alls mv (b.map fun s => ([], s)) 4).map wyD)) := by
  have sz : (100000 : Nat) ≤ sizeLine := by decide
  have l0 : (b.map fun s => (([], s) : Wy)).length ≤ 3 := by rw [List.length_map]; exact hb
  generalize hl : (b.map fun s => (([], s) : Wy)) = l at l0
  have el : (b.map fun s : Nat => (.tuple [.tuple [], .int (s : Nat)] : Dt)) = l.map wyD := by rw [← hl, List.map_map]; rfl
  show outF (m__law_ways [some (.v (wD n b mv e)), some (.v (.int 4)), none, none, none, none, none, none, none, none, none]) = _
  apply o_Fw
  unfold m__law_ways
  repeat' (first | array_get_dec)
  rw [show (b.map fun b : Nat => (.tuple [.tuple [], .int (b : Nat)] : Dt)) = l.map wyD from el]
  refine w_For (fun t ss => ∃ z2 z3 z5 z6 z7, (z3 = .o (.list ((alls mv l t).map wyD)) ∨ z3 = .v (.list ((alls mv l t).map wyD))) ∧ ss = [some (.v (wD n b mv e)), some (.v (.int 4)), z2, some z3, some (.o (.list ((wys mv l t).map wyD))), z5, z6, z7, none, none, none]) (items := List.range 4) (enc := fun s : Nat => (.int s : Dt)) (by repeat' (first | array_get_dec)) ⟨_, _, _, _, _, .inl rfl, rfl⟩ ?_ ?_
  · rintro t ht _ ⟨z2, z3, z5, z6, z7, h3, rfl⟩
    rw [List.length_range] at ht
    rw [List.getElem_range]
    have w1 := wys_le (mv := mv) (l := l) (k := t) hm l0 (by omega)
    have w2 := wys_le (mv := mv) (l := l) (k := t + 1) hm l0 (by omega)
    have w3 := alls_le (mv := mv) (l := l) (k := t) hm l0 (by omega)
    have w4 := alls_le (mv := mv) (l := l) (k := t + 1) hm l0 (by omega)
    apply go_turn
    · repeat' (first | array_get_dec)
    repeat' (first | array_get_dec)
    refine w_For (fun j ss => ∃ z6 z7, ss = [some (.v (wD n b mv e)), some (.v (.int 4)), some (.v (.int (t : Nat))), some z3, some (.o (.list ((wys mv l t).map wyD))), some (.o (.list ((((wys mv l t).take j).flatMap (ons mv)).map wyD))), z6, z7, none, none, none]) (items := wys mv l t) (enc := wyD) (by repeat' (first | array_get_dec)) ⟨_, _, rfl⟩ ?_ ?_
    · rintro j hj _ ⟨z6, z7, rfl⟩
      generalize hw : (wys mv l t)[j] = w
      have tk : (wys mv l t).take (j + 1) = (wys mv l t).take j ++ [w] := by rw [List.take_succ, List.getElem?_eq_getElem hj, hw]; rfl
      have f : ∀ w, (ons mv w).length ≤ 5 := fun w => Nat.le_trans (ons_len mv w) hm
      have b1 : (((wys mv l t).take j).flatMap (ons mv)).length ≤ ((wys mv l t).take j).length * 5 := fm_len f _
      have b2 : ((wys mv l t).take j).length ≤ 1875 := Nat.le_trans (by rw [List.length_take]; exact Nat.min_le_right _ _) w1
      have wd := (wys_deep (mv := mv) (b := b) t w (by rw [hl, ← hw]; exact List.getElem_mem _)).1
      have st : ∀ es : List Dt, (es = (ons mv w).map wyD) → ((((wys mv l t).take j).flatMap (ons mv)).map wyD).length + es.length ≤ sizeLine := fun es he => by
        rw [he, List.length_map, List.length_map]
        have := f w
        omega
      have eo : ((mv.zipIdx.filter fun p => decide (p.1.p = w.2)).map fun p : Mv × Nat => (.tuple [.tuple ((w.1.map fun i : Nat => (.int (i : Nat) : Dt)) ++ [.int (p.2 : Nat)]), .int (p.1.q : Nat)] : Dt)) = (ons mv w).map wyD := by
        unfold ons
        rw [List.map_map]
        refine List.map_congr_left fun p _ => ?_
        simp [wyD, natsD]
      apply go_turn
      · repeat' (first | array_get_dec)
      have i0 : ∀ m, fIx (mvD m) (.int 0) = some (.int (m.p : Nat)) := fun _ => rfl
      have i3 : ∀ m, fIx (mvD m) (.int 3) = some (.int (m.q : Nat)) := fun _ => rfl
      have ad : ∀ i : Nat, gAdd (natsD w.1) (.tuple [.int (i : Nat)]) = some (.tuple ((w.1.map fun i : Nat => (.int (i : Nat) : Dt)) ++ [.int (i : Nat)])) := fun i => q_addT (by rw [List.length_map, wd, List.length_singleton]; omega)
      have zl : mv.zipIdx.length ≤ sizeLine := by rw [List.length_zipIdx]; omega
      repeat' (first | with_reducible apply e_EnumW | with_reducible exact i0 _ | with_reducible exact i3 _ | with_reducible exact ad _ | with_reducible exact zl | with_reducible exact st _ eo | array_get_dec)
      refine ⟨some (.v (natsD w.1)), some (.v (.int (w.2 : Nat))), ?_⟩
      rw [tk, List.flatMap_append, List.map_append, List.flatMap_cons, List.flatMap_nil, List.append_nil, ← eo]
    · rintro _ ⟨z6, z7, rfl⟩
      rw [List.take_length]
      have sa : ((alls mv l t).map wyD).length + (((wys mv l t).flatMap (ons mv)).map wyD).length ≤ sizeLine := by
        have w2 : ((wys mv l t).flatMap (ons mv)).length ≤ 1875 := w2
        rw [List.length_map, List.length_map]
        omega
      rcases h3 with rfl | rfl
      · repeat' (first | with_reducible exact sa | array_get_dec)
        exact ⟨_, _, _, _, _, .inr rfl, by rw [← List.map_append]; rfl⟩
      · repeat' (first | with_reducible exact sa | array_get_dec)
        exact ⟨_, _, _, _, _, .inr rfl, by rw [← List.map_append]; rfl⟩
  · rintro _ ⟨z2, z3, z5, z6, z7, h3, rfl⟩
    rw [List.length_range] at h3
    rcases h3 with rfl | rfl
    · repeat' (first | array_get_dec)
    · repeat' (first | array_get_dec)
section
variable {P : Program} {w : World} {K : PySem.W.Frag} {mg : Str → Option Value} {base : Heap}
theorem go__law_ways (T : Top w K mg) : Go P w K mg base 1 "_law_ways" s__law_ways ["_law_w", "_law_top"] (spF K mg 2 G__law_ways) := go_pure T.hw T.d__law_ways sc__law_ways (by decide) rfl e__law_ways fun f cdv A outer s H E C =>
    (ss_cons (par2 C 3 4 (n_o (o_lc C (fun _ => bo_202_29) (i_sq C (v_dget C (bn 0) (b_val v_str))) (gn (C.blk cs_202_29) 8) ts_nil (v_tup (a_cons (v_tup a_nil) (a_cons (nm 8) a_nil))))) (n_o (o_lc C (fun _ => bo_202_72) (i_sq C (v_dget C (bn 0) (b_val v_str))) (gn (C.blk cs_202_72) 8) ts_nil (v_tup (a_cons (v_tup a_nil) (a_cons (nm 8) a_nil))))))
    (ss_cons (s_for C (i_rng1 C (a_cons (nm 1) a_nil) (by intro _; rfl) T.b_range) (gn C 2) (ss_cons (set1 C 5 (n_o (o_lst a_nil)))
    (ss_cons (s_for C (i_sq C (v_new (o_buT C (u_list C) (bs_cons (bn 4) bs_nil) (by intro _; rfl) T.b_list PyProof.Rows.boot_list))) (g_tup C (gs_cons (gn C 6) (gs_cons (gn C 7) gs_nil))) (ss_one (s_extend C 5 (v_new (o_lc C (fun _ => bo_206_30) (i_enum C (a_cons (v_dget C (bn 0) (b_val v_str)) a_nil) (by intro _; rfl) T.b_enumerate) (g_tup (C.blk cs_206_30) (gs_cons (gn (C.blk cs_206_30) 9) (gs_cons (gn (C.blk cs_206_30) 10) gs_nil))) (ts_one (t_cmp (b_val (v_ix (C.blk cs_206_30) (bn 10) (b_val v_int))) (bn 7) (c_eqA (C.blk cs_206_30)) rfl)) (v_tup (a_cons (v_bin (bn 6) (b_val (v_tup (a_cons (nm 9) a_nil))) (s_add (C.blk cs_206_30))) (a_cons (v_ix (C.blk cs_206_30) (bn 10) (b_val v_int)) a_nil))))))))
    (ss_cons (set1 C 4 (n_o (o_buT C (u_list C) (bs_cons (bn 5) bs_nil) (by intro _; rfl) T.b_list PyProof.Rows.boot_list)))
    (ss_one (set1 C 3 (n_v (v_bin (bn 3) (bn 4) (s_add C)))))))))
    (ss_one (s_ret (nm 3)))))
end

theorem sc_Pacer_spelled : FnScope ["self", "moves", "index"] ["self", "moves"] (defScope s_Pacer_spelled) := ⟨rfl, rfl, rfl, by decide +kernel, rfl, by decide +kernel, by decide +kernel⟩
def cs_145_24 : Scope := { kind := PySem.ScopeKind.function, names := [ (PySem.Str.ofString ".0", PySem.NameKind.local), (PySem.Str.ofString "index", PySem.NameKind.local), (PySem.Str.ofString "self", PySem.NameKind.free)], isGenerator := false, isCoroutine := false, more := [] : PySem.Scope }
theorem bo_145_24 : BlkOk ["self", "moves", "index"] (defScope s_Pacer_spelled) cs_145_24 [("index", 2)] := ⟨rfl, by decide, by decide, by decide, by decide⟩
def cs_145_76 : Scope := { kind := PySem.ScopeKind.function, names := [ (PySem.Str.ofString ".0", PySem.NameKind.local), (PySem.Str.ofString "index", PySem.NameKind.local), (PySem.Str.ofString "self", PySem.NameKind.free)], isGenerator := false, isCoroutine := false, more := [] : PySem.Scope }
theorem bo_145_76 : BlkOk ["self", "moves", "index"] (defScope s_Pacer_spelled) cs_145_76 [("index", 2)] := ⟨rfl, by decide, by decide, by decide, by decide⟩
abbrev N_Pacer_spelled : List Str := ["self", "moves", "index"]
def m_Pacer_spelled : SS → SO := (mRet (mTup (mCons (mM1 fJoin (mB (mC (.str ""))) (mB (mLc (mItems (mVar 1)) [2] (gNm 2) mYes (mBin fIx (mB (mBin fIx (mB (mFld "Pacer" "moves" (mBor 0))) (mBor 2))) (mB (mC (.int 1))))))) (mCons (mM1 fJoin (mB (mC (.str ""))) (mB (mLc (mItems (mVar 1)) [2] (gNm 2) mYes (mBin fIx (mB (mBin fIx (mB (mFld "Pacer" "moves" (mBor 0))) (mBor 2))) (mB (mC (.int 2))))))) mNil))))
def G_Pacer_spelled : List Dt → Res Dt := fun ds => outF (m_Pacer_spelled (startS N_Pacer_spelled ds))
theorem e_Pacer_spelled (ds : List Dt) (h : ds.length = 2) : outF (m_Pacer_spelled (startS N_Pacer_spelled ds)) = G_Pacer_spelled ds ∨ G_Pacer_spelled ds = .no := .inl rfl
def spellL (mv : List Mv) (is : List Nat) : Str := Txt.join "" (is.map fun i => (mvAt mv i).u)
def spellR (mv : List Mv) (is : List Nat) : Str := Txt.join "" (is.map fun i => (mvAt mv i).v)
theorem sum_le {l : List Nat} {k : Nat} (h : ∀ x ∈ l, x ≤ k) : l.sum ≤ l.length * k := by
  induction l with
  | nil => simp
  | cons a l ih =>
    have h1 := h a (List.mem_cons_self ..)
    have h2 := ih fun x hx => h x (List.mem_cons_of_mem _ hx)
    rw [List.sum_cons, List.length_cons, Nat.succ_mul]
    omega
theorem join_bd {mv : List Mv} {is : List Nat} {f : Mv → Str} (h : ∀ i ∈ is, i < mv.length) (hk : ∀ m ∈ mv, (f m).length ≤ 2) (hl : is.length ≤ 100) : ((is.map fun i => f (mvAt mv i)).map (·.length)).sum + (is.map fun i => f (mvAt mv i)).length * ("" : Str).length ≤ 16777216 := by
  have e : ("" : Str).length = 0 := rfl
  have := sum_le (l := (is.map fun i => f (mvAt mv i)).map (·.length)) (k := 2) fun x hx => by
    obtain ⟨z, hz, rfl⟩ := List.mem_map.mp hx
    obtain ⟨i, hi, rfl⟩ := List.mem_map.mp hz
    exact hk _ (mvAt_mem (h i hi))
  rw [List.length_map, List.length_map] at this
  rw [e]
  omega
theorem q_sp {n : Nat} {b e : List Nat} {mv : List Mv} {is : List Nat} (M : Sml n b mv e) (h : ∀ i ∈ is, i < mv.length) (hl : is.length ≤ 100) : G_Pacer_spelled [pcD n b mv e, natsD is] = .ok (.tuple [.str (spellL mv is), .str (spellR mv is)]) := by
  have j1 := q_join (z := "") (f := fun i => (mvAt mv i).u) (l := is) (join_bd h (fun m hm => (M.k m hm).1) hl)
  have j2 := q_join (z := "") (f := fun i => (mvAt mv i).v) (l := is) (join_bd h (fun m hm => (M.k m hm).2) hl)
  have u : ∀ m, fIx (mvD m) (.int 1) = some (.str m.u) := fun _ => rfl
  have v : ∀ m, fIx (mvD m) (.int 2) = some (.str m.v) := fun _ => rfl
  show outF (m_Pacer_spelled [some (.v (pcD n b mv e)), some (.v (natsD is)), none]) = _
  apply o_Fe
  · unfold m_Pacer_spelled
    repeat' (first | with_reducible exact j1 | with_reducible exact j2 | with_reducible exact u _ | with_reducible exact v _ | with_reducible exact at_mvT (h _ (by assumption)) | array_get_dec)
  · rfl
theorem txt_toL (l : List Nat) : (txt l).cps.toList = l := by simp [txt]
theorem join_toL (zs : List Str) : (Txt.join "" zs).cps.toList = (zs.map fun z => z.cps.toList).flatten := by rw [join_empty_strs, txt_toL]
theorem spL_snoc {mv : List Mv} {is : List Nat} {i : Nat} : (spellL mv (is ++ [i])).cps.toList = (spellL mv is).cps.toList ++ (mvAt mv i).u.cps.toList := by
  simp [spellL, join_toL]
theorem spR_snoc {mv : List Mv} {is : List Nat} {i : Nat} : (spellR mv (is ++ [i])).cps.toList = (spellR mv is).cps.toList ++ (mvAt mv i).v.cps.toList := by
  simp [spellR, join_toL]
theorem mvAt_some {mv : List Mv} {i : Nat} {m : Mv} (h : mv[i]? = some m) : mvAt mv i = m := by
  unfold mvAt
  rw [h]
  rfl
theorem wys_sp {mv : List Mv} {b : List Nat} : ∀ k, ∀ w ∈ wys mv (b.map fun s => ([], s)) k, ∃ s ∈ b, Sp mv s (spellL mv w.1).cps.toList (spellR mv w.1).cps.toList w.2
  | 0, w, h => by
    obtain ⟨s, hs, rfl⟩ := List.mem_map.mp h
    refine ⟨s, hs, ?_⟩
    have e1 : (spellL mv []).cps.toList = [] := by simp [spellL, join_toL]
    have e2 : (spellR mv []).cps.toList = [] := by simp [spellR, join_toL]
    rw [e1, e2]
    exact .nil
  | k + 1, w, h => by
    obtain ⟨w0, h0, h1⟩ := List.mem_flatMap.mp h
    obtain ⟨⟨m, i⟩, hp, rfl⟩ := List.mem_map.mp h1
    obtain ⟨s, hs, sp⟩ := wys_sp k w0 h0
    have hp := List.mem_filter.mp hp
    have hi : mv[i]? = some m := List.mk_mem_zipIdx_iff_getElem?.mp hp.1
    have hq : m.p = w0.2 := of_decide_eq_true hp.2
    refine ⟨s, hs, ?_⟩
    rw [← hq] at sp
    rw [spL_snoc, spR_snoc, mvAt_some hi]
    exact .snoc sp (List.mem_of_getElem? hi)
theorem sp_wys {mv : List Mv} {b : List Nat} (hne : ∀ m ∈ mv, 1 ≤ m.u.length + m.v.length) {s t : Nat} {x y : List Nat} (hs : s ∈ b) (h : Sp mv s x y t) : ∃ k w, k ≤ x.length + y.length ∧ w ∈ wys mv (b.map fun s => ([], s)) k ∧ w.2 = t ∧ (spellL mv w.1).cps.toList = x ∧ (spellR mv w.1).cps.toList = y := by
  induction h with
  | nil =>
    refine ⟨0, ([], s), Nat.zero_le _, List.mem_map.mpr ⟨s, hs, rfl⟩, rfl, ?_, ?_⟩
    · simp [spellL, join_toL]
    · simp [spellR, join_toL]
  | @snoc x y m _ hm ih =>
    obtain ⟨k, w, h1, h2, h3, h4, h5⟩ := ih
    obtain ⟨i, hi⟩ := List.getElem?_of_mem hm
    refine ⟨k + 1, (w.1 ++ [i], m.q), ?_, List.mem_flatMap.mpr ⟨w, h2, List.mem_map.mpr ⟨(m, i), List.mem_filter.mpr ⟨List.mk_mem_zipIdx_iff_getElem?.mpr hi, decide_eq_true h3.symm⟩, rfl⟩⟩, rfl, ?_, ?_⟩
    · have := hne m hm
      rw [List.length_append, List.length_append, len_cps, len_cps]
      omega
    · rw [spL_snoc, mvAt_some hi, h4]
    · rw [spR_snoc, mvAt_some hi, h5]
theorem told_way {mv : List Mv} {b e : List Nat} {k : Nat} {w : Wy} (h : w ∈ alls mv (b.map fun s => ([], s)) k) (he : w.2 ∈ e) : Tells b mv e (spellL mv w.1) (spellR mv w.1) := by
  obtain ⟨j, _, hw⟩ := (alls_mem k).mp h
  obtain ⟨s, hs, sp⟩ := wys_sp j w hw
  exact tells_sp.mpr ⟨s, hs, w.2, he, sp⟩
theorem tells_ways {mv : List Mv} {b e : List Nat} (hne : ∀ m ∈ mv, 1 ≤ m.u.length + m.v.length) {x y : Str} (hl : x.length + y.length ≤ 4) : Tells b mv e x y ↔ ∃ w ∈ alls mv (b.map fun s => ([], s)) 4, w.2 ∈ e ∧ (spellL mv w.1, spellR mv w.1) = (x, y) := by
  constructor
  · intro h
    obtain ⟨s, hs, t, ht, sp⟩ := tells_sp.mp h
    obtain ⟨k, w, h1, h2, h3, h4, h5⟩ := sp_wys hne hs sp
    rw [len_cps, len_cps] at h1
    refine ⟨w, (alls_mem 4).mpr ⟨k, by omega, h2⟩, by rw [h3]; exact ht, ?_⟩
    rw [← txt_cps (spellL mv w.1), ← txt_cps (spellR mv w.1), h4, h5, txt_cps, txt_cps]
  · rintro ⟨w, h1, h2, h3⟩
    cases h3
    exact told_way h1 h2
def insP (l : List (Str × Str)) (p : Str × Str) : List (Str × Str) := if p ∈ l then l else l ++ [p]
theorem insP_mem {l : List (Str × Str)} {p q : Str × Str} : q ∈ insP l p ↔ q ∈ l ∨ q = p := by
  unfold insP
  split
  · rename_i h
    exact ⟨.inl, fun z => z.elim id fun e => e ▸ h⟩
  · simp
theorem insP_len {l : List (Str × Str)} {p : Str × Str} : (insP l p).length ≤ l.length + 1 := by
  unfold insP
  split <;> simp
def duo1 (mv : List Mv) (e : List Nat) (a : List (Str × Str)) (w : Wy) : List (Str × Str) := if w.2 ∈ e then insP a (spellL mv w.1, spellR mv w.1) else a
def duos (mv : List Mv) (e : List Nat) (l : List Wy) : List (Str × Str) := l.foldl (duo1 mv e) []
theorem duos_snoc {mv : List Mv} {e : List Nat} {l : List Wy} {w : Wy} : duos mv e (l ++ [w]) = duo1 mv e (duos mv e l) w := by
  unfold duos
  rw [List.foldl_append]
  rfl
theorem duos_go {mv : List Mv} {e : List Nat} {p : Str × Str} : ∀ (l : List Wy) (a : List (Str × Str)), p ∈ l.foldl (duo1 mv e) a ↔ p ∈ a ∨ ∃ w ∈ l, w.2 ∈ e ∧ (spellL mv w.1, spellR mv w.1) = p
  | [], a => by simp
  | w :: l, a => by
    rw [List.foldl_cons, duos_go l]
    unfold duo1
    split
    · rename_i h
      rw [insP_mem]
      constructor
      · rintro ((h1 | h1) | ⟨w', h1, h2⟩)
        · exact .inl h1
        · exact .inr ⟨w, List.mem_cons_self .., h, h1.symm⟩
        · exact .inr ⟨w', List.mem_cons_of_mem _ h1, h2⟩
      · rintro (h1 | ⟨w', h1, h2, h3⟩)
        · exact .inl (.inl h1)
        · rcases List.mem_cons.mp h1 with rfl | h1
          · exact .inl (.inr h3.symm)
          · exact .inr ⟨w', h1, h2, h3⟩
    · rename_i h
      constructor
      · rintro (h1 | ⟨w', h1, h2⟩)
        · exact .inl h1
        · exact .inr ⟨w', List.mem_cons_of_mem _ h1, h2⟩
      · rintro (h1 | ⟨w', h1, h2, h3⟩)
        · exact .inl h1
        · rcases List.mem_cons.mp h1 with rfl | h1
          · exact absurd h2 h
          · exact .inr ⟨w', h1, h2, h3⟩
theorem duos_mem {mv : List Mv} {e : List Nat} {l : List Wy} {p : Str × Str} : p ∈ duos mv e l ↔ ∃ w ∈ l, w.2 ∈ e ∧ (spellL mv w.1, spellR mv w.1) = p := by
  unfold duos
  rw [duos_go]
  simp
theorem duos_len {mv : List Mv} {e : List Nat} : ∀ (l : List Wy) (a : List (Str × Str)), (l.foldl (duo1 mv e) a).length ≤ a.length + l.length
  | [], a => by simp
  | w :: l, a => by
    have h := duos_len (mv := mv) (e := e) l (duo1 mv e a w)
    have : (duo1 mv e a w).length ≤ a.length + 1 := by
      unfold duo1
      split
      · exact insP_len
      · omega
    rw [List.foldl_cons, List.length_cons]
    omega
def prD (p : Str × Str) : Dt := .tuple [.str p.1, .str p.2]
def prsD (l : List (Str × Str)) : List (Dt × Dt) := l.map fun p => (prD p, .bool true)
theorem prD_inj {p q : Str × Str} (h : prD p = prD q) : p = q := by
  obtain ⟨a, b⟩ := p
  obtain ⟨a', b'⟩ := q
  simp only [prD, PyData.tuple.injEq, List.cons.injEq, PyData.str.injEq, and_true] at h
  simp [h.1, h.2]
theorem key_pr (p : Str × Str) : key1 (prD p) = false ∧ keyN (prD p) = true := ⟨rfl, by
  unfold keyN prD
  simp only [toNK, toNKs, Option.map]
  rfl⟩
theorem look_prs (p : Str × Str) : ∀ l : List (Str × Str), lookD (prsD l) (prD p) = if p ∈ l then some (.bool true) else none
  | [] => rfl
  | q :: l => by
    have ih := look_prs p l
    show lookD ((prD q, .bool true) :: prsD l) (prD p) = _
    rw [lookD_cons, ih]
    by_cases e : q = p
    · subst e
      simp
    · rw [if_neg (fun h => e (prD_inj h))]
      have : ¬ p = q := fun h => e h.symm
      by_cases hm : p ∈ l <;> simp [hm, this]
theorem nk_prs : ∀ l : List (Str × Str), ((prsD l).isEmpty || isNK (prsD l)) = true
  | [] => rfl
  | _ :: _ => rfl
theorem fLook_prs (p : Str × Str) (l : List (Str × Str)) : fLook (prsD l) (prD p) = some (if p ∈ l then some (.bool true) else none) := by
  unfold fLook
  rw [(key_pr p).1, (key_pr p).2, nk_prs, look_prs]
  rfl
theorem in_prs (p : Str × Str) (l : List (Str × Str)) : fInA (prD p) (.dict (prsD l)) = some (decide (p ∈ l)) := by
  show (fLook (prsD l) (prD p)).map (fun o => if false then !o.isSome else o.isSome) = _
  rw [fLook_prs]
  by_cases h : p ∈ l <;> simp [h]
theorem put_prs (p : Str × Str) (l : List (Str × Str)) : putD (prsD l) (prD p) (.bool true) = prsD (insP l p) := by
  unfold putD insP
  by_cases h : p ∈ l
  · rw [if_pos h, if_pos]
    · unfold prsD
      rw [List.map_map]
      refine List.map_congr_left fun q _ => ?_
      show (if _ then _ else _) = _
      split
      · rfl
      · rfl
    · simp only [prsD, List.any_map, List.any_eq_true, Function.comp, decide_eq_true_eq]
      exact ⟨p, h, rfl⟩
  · rw [if_neg h, if_neg]
    · simp [prsD]
    · simp only [prsD, List.any_map, List.any_eq_true, Function.comp, decide_eq_true_eq, not_exists, not_and]
      intro q hq e
      exact h (prD_inj e ▸ hq)
theorem keys_prs (l : List (Str × Str)) : fListA [.dict (prsD l)] = some (l.map prD) := by
  have h : (isK (prsD l) || isNK (prsD l)) = true := by cases l <;> rfl
  show (if _ then _ else _) = _
  rw [if_pos h]
  unfold prsD
  rw [List.map_map]
  rfl
theorem join_one (z : Str) : Txt.join "" [z] = z := by
  rw [join_empty_strs]
  simp [txt_cps]
theorem Sml.filt {n : Nat} {b e : List Nat} {mv : List Mv} (M : Sml n b mv e) (p : Mv → Bool) : Sml n b (mv.filter p) e where
  P := ⟨M.P.n1, M.P.hb, M.P.he, fun m hm => M.P.hm m (List.mem_filter.mp hm).1, Nat.le_trans (List.length_filter_le _ _) M.P.l⟩
  n := M.n
  l := Nat.le_trans (List.length_filter_le _ _) M.l
  k := fun m hm => M.k m (List.mem_filter.mp hm).1
theorem neA_same {ds : List Dt} (h : SeqAt.shaped (.tuple ds) = true) : fNeA (.tuple ds) (.tuple ds) = some false := by
  cases ds with
  | nil => rfl
  | cons d ds =>
    show fNe (.tuple (d :: ds)) (.tuple (d :: ds)) = some false
    unfold fNe
    rw [if_pos ⟨h, h⟩]
    have := (Bool.and_eq_true_iff.mp h).1
    rw [SeqAt.eqv_refl _ this]
    rfl
theorem spell_let {mv : List Mv} {is : List Nat} {f : Mv → Str} (h : ∀ i ∈ is, i < mv.length) (hl : is.length ≤ 100) (hk : ∀ m ∈ mv, letW (f m) = true ∧ (f m).length ≤ 2) : letW (Txt.join "" (is.map fun i => f (mvAt mv i))) = true ∧ (Txt.join "" (is.map fun i => f (mvAt mv i))).length ≤ is.length * 2 := by
  have ln : (Txt.join "" (is.map fun i => f (mvAt mv i))).length ≤ is.length * 2 := by
    rw [join_empty_strs, txt_len, List.length_flatten, List.map_map, List.map_map]
    have := sum_le (l := is.map (List.length ∘ (fun z : Str => z.cps.toList) ∘ fun i => f (mvAt mv i))) (k := 2) fun x hx => by
      obtain ⟨i, hi, rfl⟩ := List.mem_map.mp hx
      show (f (mvAt mv i)).cps.toList.length ≤ 2
      rw [len_cps]
      exact (hk _ (mvAt_mem (h i hi))).2
    rw [List.length_map] at this
    exact this
  refine ⟨?_, ln⟩
  unfold letW
  rw [Bool.and_eq_true]
  refine ⟨?_, decide_eq_true (Nat.le_trans ln (by omega))⟩
  rw [join_toL, List.all_eq_true]
  intro c hc
  obtain ⟨l, hl, hcl⟩ := List.mem_flatten.mp hc
  obtain ⟨z, hz, rfl⟩ := List.mem_map.mp hl
  obtain ⟨i, hi, rfl⟩ := List.mem_map.mp hz
  have := (hk _ (mvAt_mem (h i hi))).1
  unfold letW at this
  exact List.all_eq_true.mp (Bool.and_eq_true_iff.mp this).1 c hcl
section
variable {P : Program} {w : World} {K : PySem.W.Frag} {mg : Str → Option Value} {base : Heap}
theorem go_Pacer_spelled (T : Top w K mg) : Gm P w K mg base 1 "Pacer" "spelled" "Pacer.spelled" s_Pacer_spelled ["self", "moves"] (spF K mg 2 G_Pacer_spelled) := gm_pure T.hw T.d_Pacer_spelled sc_Pacer_spelled (by decide) rfl e_Pacer_spelled fun f cdv A outer s H E C =>
    (ss_one (s_ret (v_tup (a_cons (v_m1 PySem.F.slot_str_join PySem.F.type_str_join (u_join C) (b_val v_str) (b_val (v_new (o_lc C (fun _ => bo_145_24) (i_sq C (nm 1)) (gn (C.blk cs_145_24) 2) ts_nil (v_ix (C.blk cs_145_24) (b_val (v_ix (C.blk cs_145_24) (b_val (v_fld (C.blk cs_145_24) T.k_Pacer (by decide) (bn 0))) (bn 2))) (b_val v_int)))))) (a_cons (v_m1 PySem.F.slot_str_join PySem.F.type_str_join (u_join C) (b_val v_str) (b_val (v_new (o_lc C (fun _ => bo_145_76) (i_sq C (nm 1)) (gn (C.blk cs_145_76) 2) ts_nil (v_ix (C.blk cs_145_76) (b_val (v_ix (C.blk cs_145_76) (b_val (v_fld (C.blk cs_145_76) T.k_Pacer (by decide) (bn 0))) (bn 2))) (b_val v_int)))))) a_nil)))))
end

theorem sc_Pacer_further_places : FnScope ["self", "here", "left", "right", "found", "state", "one", "other", "origin", "word", "mate", "further"] ["self", "here", "left", "right"] (defScope s_Pacer_further_places) := ⟨rfl, rfl, rfl, by decide +kernel, rfl, by decide +kernel, by decide +kernel⟩
abbrev N_Pacer_further_places : List Str := ["self", "here", "left", "right", "found", "state", "one", "other", "origin", "word", "mate", "further"]
def m_Pacer_further_places : SS → SO := (mSeq (mAsg (gTupV 3 (gConsV (gNm 5) (gConsV (gNm 6) (gConsV (gNm 7) gNilV)))) (mVar 1))
    (mSeq (mSet 4 (mOw (mLst mNil)))
    (mSeq (mFor (mItems (mFld "Pacer" "moves" (mBor 0))) (gTupV 4 (gConsV (gNm 8) (gConsV (gNm 9) (gConsV (gNm 10) (gConsV (gNm 11) gNilV))))) (mIfS (mAnd (mCmp fEqA (mBor 8) (mBor 5)) (mAnd (toB (mMn fStart3 (mBor 2) (mConsB (mBor 9) (mConsB (mBor 6) mNilB)))) (toB (mMn fStart3 (mBor 3) (mConsB (mBor 10) (mConsB (mBor 7) mNilB)))))) (mAppend 4 (mTup (mCons (mVar 11) (mCons (mBin gAdd (mBor 6) (mB (mBu fLen (mConsB (mBor 9) mNilB)))) (mCons (mBin gAdd (mBor 7) (mB (mBu fLen (mConsB (mBor 10) mNilB)))) mNil))))) .nx))
    (mRet (mVar 4)))))
def G_Pacer_further_places : List Dt → Res Dt := fun ds => outF (m_Pacer_further_places (startS N_Pacer_further_places ds))
theorem e_Pacer_further_places (ds : List Dt) (h : ds.length = 4) : outF (m_Pacer_further_places (startS N_Pacer_further_places ds)) = G_Pacer_further_places ds ∨ G_Pacer_further_places ds = .no := .inl rfl
theorem q_fp {n : Nat} {b e : List Nat} {mv : List Mv} {x y : Str} {p : Pl} (X : PX n b mv e x y) (hi : p.2.1 ≤ x.length) (hj : p.2.2 ≤ y.length) : G_Pacer_further_places [pcD n b mv e, plD p, .str x, .str y] = .ok (.list ((nxs mv x y p).map plD)) :=
  fp_all X.hx X.hy (fun m hm => (X.hm m hm).2.2) X.l hi hj
section
variable {P : Program} {w : World} {K : PySem.W.Frag} {mg : Str → Option Value} {base : Heap}
theorem go_Pacer_further_places (T : Top w K mg) : Gm P w K mg base 1 "Pacer" "further_places" "Pacer.further_places" s_Pacer_further_places ["self", "here", "left", "right"] (spF K mg 4 G_Pacer_further_places) := gm_pure T.hw T.d_Pacer_further_places sc_Pacer_further_places (by decide) rfl e_Pacer_further_places fun f cdv A outer s H E C =>
    (ss_cons (s_asg (g_tup C (gs_cons (gn C 5) (gs_cons (gn C 6) (gs_cons (gn C 7) gs_nil)))) (nm 1))
    (ss_cons (set1 C 4 (n_o (o_lst a_nil)))
    (ss_cons (s_for C (i_sq C (v_fld C T.k_Pacer (by decide) (bn 0))) (g_tup C (gs_cons (gn C 8) (gs_cons (gn C 9) (gs_cons (gn C 10) (gs_cons (gn C 11) gs_nil))))) (ss_one (s_if (t_w (w_and (t_cmp (bn 8) (bn 5) (c_eqA C) rfl) (w_and (t_val (v_mn C PySem.F.slot_str_startswith PySem.F.type_str_startswith u_start3 (bn 2) (bs_cons (bn 9) (bs_cons (bn 6) bs_nil)))) (w_and1 (t_val (v_mn C PySem.F.slot_str_startswith PySem.F.type_str_startswith u_start3 (bn 3) (bs_cons (bn 10) (bs_cons (bn 7) bs_nil)))))))) (ss_one (app1 C 4 (v_tup (a_cons (nm 11) (a_cons (v_bin (bn 6) (b_val (v_bu C (u_len C) (bs_cons (bn 9) bs_nil) (by intro _; rfl) T.b_len (by decide +kernel))) (s_add C)) (a_cons (v_bin (bn 7) (b_val (v_bu C (u_len C) (bs_cons (bn 10) bs_nil) (by intro _; rfl) T.b_len (by decide +kernel))) (s_add C)) a_nil)))))) ss_nil)))
    (ss_one (s_ret (nm 4))))))
end

theorem sc_Pacer_tells : FnScope ["self", "left", "right", "met", "waiting", "here", "state"] ["self", "left", "right"] (defScope s_Pacer_tells) := ⟨rfl, rfl, rfl, by decide +kernel, rfl, by decide +kernel, by decide +kernel⟩
def cs_128_28 : Scope := { kind := PySem.ScopeKind.function, names := [(PySem.Str.ofString ".0", PySem.NameKind.local), (PySem.Str.ofString "state", PySem.NameKind.local)], isGenerator := false, isCoroutine := false, more := [] : PySem.Scope }
theorem bo_128_28 : BlkOk ["self", "left", "right", "met", "waiting", "here", "state"] (defScope s_Pacer_tells) cs_128_28 [("state", 6)] := ⟨rfl, by decide, by decide, by decide, by decide⟩
def cs_134_19 : Scope := { kind := PySem.ScopeKind.function, names := [ (PySem.Str.ofString ".0", PySem.NameKind.local), (PySem.Str.ofString "state", PySem.NameKind.local), (PySem.Str.ofString "len", PySem.NameKind.globalImplicit), (PySem.Str.ofString "left", PySem.NameKind.free), (PySem.Str.ofString "met", PySem.NameKind.free), (PySem.Str.ofString "right", PySem.NameKind.free)], isGenerator := false, isCoroutine := false, more := [] : PySem.Scope }
theorem bo_134_19 : BlkOk ["self", "left", "right", "met", "waiting", "here", "state"] (defScope s_Pacer_tells) cs_134_19 [("state", 6)] := ⟨rfl, by decide, by decide, by decide, by decide⟩
abbrev N_Pacer_tells : List Str := ["self", "left", "right", "met", "waiting", "here", "state"]
noncomputable def m_Pacer_tells : SS → SO := (mSeq (mParT [3, 4] (mNCons (mOw mDict0) (mNCons (mOw (mLc (mItems (mFld "Pacer" "begins" (mBor 0))) [6] (gNm 6) mYes (mTup (mCons (mVar 6) (mCons (mC (.int 0)) (mCons (mC (.int 0)) mNil)))))) mNNil)))
    (mSeq (mWhile (mCmp fNeA (mBor 4) (mB (mLst mNil))) (mSeq (mSet 5 (mFz (mPop 4)))
    (mIfS (mCmp fNotInA (mBor 5) (mBor 3)) (mSeq (mPut 3 (mVar 5) (mC (.bool true)))
    (mExtend 4 (mMeth "Pacer" "further_places" List.cons G_Pacer_further_places (mVar 0) (mCons (mVar 5) (mCons (mVar 1) (mCons (mVar 2) mNil)))))) .nx)))
    (mRet (mBu fAny (mConsB (mB (mLc (mItems (mFld "Pacer" "ends" (mBor 0))) [6] (gNm 6) mYes (mBl (mCmp fInA (mB (mTup (mCons (mVar 6) (mCons (mBu fLen (mConsB (mBor 1) mNilB)) (mCons (mBu fLen (mConsB (mBor 2) mNilB)) mNil))))) (mBor 3))))) mNilB)))))
noncomputable def G_Pacer_tells : List Dt → Res Dt := fun ds => outF (m_Pacer_tells (startS N_Pacer_tells ds))
theorem e_Pacer_tells (ds : List Dt) (h : ds.length = 3) : outF (m_Pacer_tells (startS N_Pacer_tells ds)) = G_Pacer_tells ds ∨ G_Pacer_tells ds = .no := .inl rfl
theorem q_tl {n : Nat} {b e : List Nat} {mv : List Mv} {x y : Str} (X : PX n b mv e x y) : ∃ z, G_Pacer_tells [pcD n b mv e, .str x, .str y] = .ok (.bool z) ∧ (z = true ↔ Tells b mv e x y) :=
  tl_all X fun p hi hj => q_fp X hi hj
theorem q_tlB {n : Nat} {b e : List Nat} {mv : List Mv} {x y : Str} (X : PX n b mv e x y) : G_Pacer_tells [pcD n b mv e, .str x, .str y] = .ok (.bool (tellsB b mv e x y)) := by
  obtain ⟨z, h, hz⟩ := q_tl X
  rw [h]
  congr 2
  rw [Bool.eq_iff_iff, hz, tellsB_iff]
theorem tl_of {n : Nat} {b e : List Nat} {mv : List Mv} (P : PcOk n b mv e) (hn : n ≤ 8) (hl : mv.length ≤ 50) {x y : Str} {z : Bool} (k : Nat) (hx : x.length ≤ 30) (hy : y.length ≤ 30) (h : closedB b mv x y (clo mv x y k [] (begB b)) = true ∧ askB b mv e x y k = z) : G_Pacer_tells [pcD n b mv e, .str x, .str y] = .ok (.bool z) := by
  have e1 : tellsB b mv e x y = z := by
    rw [← h.2, Bool.eq_iff_iff, tellsB_iff]
    exact (tells_ask h.1).symm
  rw [q_tlB (P.px hn hl hx hy), e1]
section
variable {P : Program} {w : World} {K : PySem.W.Frag} {mg : Str → Option Value} {base : Heap}
theorem go_Pacer_tells (T : Top w K mg) : Gm P w K mg base 2 "Pacer" "tells" "Pacer.tells" s_Pacer_tells ["self", "left", "right"] (spF K mg 3 G_Pacer_tells) := gm_pure T.hw T.d_Pacer_tells sc_Pacer_tells (by decide) rfl e_Pacer_tells fun f cdv A outer s H E C =>
    (ss_cons (s_parT C (sl_cons C 3 (sl_cons C 4 sl_nil)) (ns_cons (n_o o_dict0) (ns_cons (n_o (o_lc C (fun _ => bo_128_28) (i_sq C (v_fld C T.k_Pacer (by decide) (bn 0))) (gn (C.blk cs_128_28) 6) ts_nil (v_tup (a_cons (nm 6) (a_cons v_int (a_cons v_int a_nil)))))) ns_nil)) rfl (by decide))
    (ss_cons (s_while C (t_cmp (bn 4) (b_val (v_new (o_lst a_nil))) (c_neA C) rfl) (ss_cons (set1 C 5 (n_v (v_pop C 4)))
    (ss_one (s_if (t_cmp (bn 5) (bn 3) (c_notInA C) rfl) (ss_cons (s_dput C 3 (nm 5) v_bl)
    (ss_one (s_extend C 4 (v_meth C T.k_Pacer (go_Pacer_further_places T) (by first | decide | omega) (nm 0) (a_cons (nm 5) (a_cons (nm 1) (a_cons (nm 2) a_nil))) (fun ss ds ss' h => congrArg (· + 1) ((mCons_len (mCons_len (mCons_len mNil_len))) ss ds ss' h)))))) ss_nil))))
    (ss_one (s_ret (v_bu C (u_any C) (bs_cons (b_val (v_new (o_lc C (fun _ => bo_134_19) (i_sq C (v_fld C T.k_Pacer (by decide) (bn 0))) (gn (C.blk cs_134_19) 6) ts_nil (v_cmp (b_val (v_tup (a_cons (nm 6) (a_cons (v_bu (C.blk cs_134_19) (u_len (C.blk cs_134_19)) (bs_cons (bn 1) bs_nil) (by intro _; rfl) T.b_len (by decide +kernel)) (a_cons (v_bu (C.blk cs_134_19) (u_len (C.blk cs_134_19)) (bs_cons (bn 2) bs_nil) (by intro _; rfl) T.b_len (by decide +kernel)) a_nil))))) (bn 3) (c_inA (C.blk cs_134_19)) rfl)))) bs_nil) (by intro _; rfl) T.b_any (by decide +kernel))))))
end

theorem sc__law_texts : FnScope ["_law_signs", "_law_top", "_law_turn", "_law_found", "_law_last", "_law_some", "_law_sign"] ["_law_signs", "_law_top"] (defScope s__law_texts) := ⟨rfl, rfl, rfl, by decide +kernel, rfl, by decide +kernel, by decide +kernel⟩
def cs_198_24 : Scope := { kind := PySem.ScopeKind.function, names := [ (PySem.Str.ofString ".0", PySem.NameKind.local), (PySem.Str.ofString "_law_some", PySem.NameKind.cell), (PySem.Str.ofString "_law_signs", PySem.NameKind.free)], isGenerator := false, isCoroutine := false, more := [] : PySem.Scope }
theorem bo_198_24 : BlkOk ["_law_signs", "_law_top", "_law_turn", "_law_found", "_law_last", "_law_some", "_law_sign"] (defScope s__law_texts) cs_198_24 [("_law_some", 5)] := ⟨rfl, by decide, by decide, by decide, by decide⟩
def cs_198_25 : Scope := { kind := PySem.ScopeKind.function, names := [ (PySem.Str.ofString ".0", PySem.NameKind.local), (PySem.Str.ofString "_law_sign", PySem.NameKind.local), (PySem.Str.ofString "_law_some", PySem.NameKind.free)], isGenerator := false, isCoroutine := false, more := [] : PySem.Scope }
theorem bo_198_25 : BlkOk ["_law_signs", "_law_top", "_law_turn", "_law_found", "_law_last", "_law_some", "_law_sign"] (relS cs_198_24 (defScope s__law_texts)) cs_198_25 [("_law_sign", 6)] := ⟨rfl, by decide, by decide, by decide, by decide⟩
abbrev N__law_texts : List Str := ["_law_signs", "_law_top", "_law_turn", "_law_found", "_law_last", "_law_some", "_law_sign"]
def m__law_texts : SS → SO := (mSeq (mPar 3 4 (mOw (mLst (mCons (mC (.str "")) mNil))) (mOw (mLst (mCons (mC (.str "")) mNil))))
    (mSeq (mFor (mRng1 (mCons (mVar 1) mNil)) (gNm 2) (mSeq (mSet 4 (mOw (mOu fSumL (mConsB (mB (mLc (mItems (mVar 4)) [5] (gNm 5) mYes (mLc (mItems (mVar 0)) [6] (gNm 6) mYes (mBin gAdd (mBor 5) (mBor 6))))) (mConsB (mB (mLst mNil)) mNilB)))))
    (mSet 3 (mFz (mBin gAdd (mBor 3) (mBor 4))))))
    (mRet (mVar 3))))
def G__law_texts : List Dt → Res Dt := fun ds => outF (m__law_texts (startS N__law_texts ds))
theorem e__law_texts (ds : List Dt) (h : ds.length = 2) : outF (m__law_texts (startS N__law_texts ds)) = G__law_texts ds ∨ G__law_texts ds = .no := .inl rfl
theorem q_texts : G__law_texts [.str "ab", .int 2] = .ok (.list [.str "", .str "a", .str "b", .str "aa", .str "ab", .str "ba", .str "bb"]) := by
  unfold G__law_texts
  rfl
section
variable {P : Program} {w : World} {K : PySem.W.Frag} {mg : Str → Option Value} {base : Heap}
theorem go__law_texts (T : Top w K mg) : Go P w K mg base 1 "_law_texts" s__law_texts ["_law_signs", "_law_top"] (spF K mg 2 G__law_texts) := go_pure T.hw T.d__law_texts sc__law_texts (by decide) rfl e__law_texts fun f cdv A outer s H E C =>
    (ss_cons (par2 C 3 4 (n_o (o_lst (a_cons v_str a_nil))) (n_o (o_lst (a_cons v_str a_nil))))
    (ss_cons (s_for C (i_rng1 C (a_cons (nm 1) a_nil) (by intro _; rfl) T.b_range) (gn C 2) (ss_cons (set1 C 4 (n_o (o_bu C (u_sumL C) (bs_cons (b_val (v_new (o_lc C (fun _ => bo_198_24) (i_sq C (nm 4)) (gn (C.blk cs_198_24) 5) ts_nil (v_new (o_lc (C.blk cs_198_24) (fun _ => bo_198_25) (i_sq (C.blk cs_198_24) (nm 0)) (gn ((C.blk cs_198_24).blk cs_198_25) 6) ts_nil (v_bin (bn 5) (bn 6) (s_add ((C.blk cs_198_24).blk cs_198_25)))))))) (bs_cons (b_val (v_new (o_lst a_nil))) bs_nil)) (by intro _; rfl) T.b_sum PyProof.Rows.boot_sum)))
    (ss_one (set1 C 3 (n_v (v_bin (bn 3) (bn 4) (s_add C)))))))
    (ss_one (s_ret (nm 3)))))
end

theorem sc_law : FnScope ["_law_script", "_law_deck_here", "_law_go", "_law_w", "_law_texts_now", "_law_x", "_law_it", "_law_spelled_ones", "_law_some", "_law_here", "_law_duo", "_law_parts", "_law_way", "_law_at", "_law_y", "_law_part_now"] ["_law_script"] (defScope s_law) := ⟨rfl, rfl, rfl, by decide +kernel, rfl, by decide +kernel, by decide +kernel⟩
def cs_214_25 : Scope := { kind := PySem.ScopeKind.function, names := [(PySem.Str.ofString ".0", PySem.NameKind.local), (PySem.Str.ofString "_law_way", PySem.NameKind.local)], isGenerator := false, isCoroutine := false, more := [] : PySem.Scope }
theorem bo_214_25 : BlkOk ["_law_script", "_law_deck_here", "_law_go", "_law_w", "_law_texts_now", "_law_x", "_law_it", "_law_spelled_ones", "_law_some", "_law_here", "_law_duo", "_law_parts", "_law_way", "_law_at", "_law_y", "_law_part_now"] (defScope s_law) cs_214_25 [("_law_way", 12)] := ⟨rfl, by decide, by decide, by decide, by decide⟩
def cs_218_25 : Scope := { kind := PySem.ScopeKind.function, names := [ (PySem.Str.ofString ".0", PySem.NameKind.local), (PySem.Str.ofString "_law_at", PySem.NameKind.local), (PySem.Str.ofString "_law_it", PySem.NameKind.free)], isGenerator := false, isCoroutine := false, more := [] : PySem.Scope }
theorem bo_218_25 : BlkOk ["_law_script", "_law_deck_here", "_law_go", "_law_w", "_law_texts_now", "_law_x", "_law_it", "_law_spelled_ones", "_law_some", "_law_here", "_law_duo", "_law_parts", "_law_way", "_law_at", "_law_y", "_law_part_now"] (defScope s_law) cs_218_25 [("_law_at", 13)] := ⟨rfl, by decide, by decide, by decide, by decide⟩
def cs_219_36 : Scope := { kind := PySem.ScopeKind.function, names := [(PySem.Str.ofString ".0", PySem.NameKind.local), (PySem.Str.ofString "_law_part_now", PySem.NameKind.local)], isGenerator := false, isCoroutine := false, more := [] : PySem.Scope }
theorem bo_219_36 : BlkOk ["_law_script", "_law_deck_here", "_law_go", "_law_w", "_law_texts_now", "_law_x", "_law_it", "_law_spelled_ones", "_law_some", "_law_here", "_law_duo", "_law_parts", "_law_way", "_law_at", "_law_y", "_law_part_now"] (defScope s_law) cs_219_36 [("_law_part_now", 15)] := ⟨rfl, by decide, by decide, by decide, by decide⟩
def cs_219_97 : Scope := { kind := PySem.ScopeKind.function, names := [(PySem.Str.ofString ".0", PySem.NameKind.local), (PySem.Str.ofString "_law_part_now", PySem.NameKind.local)], isGenerator := false, isCoroutine := false, more := [] : PySem.Scope }
theorem bo_219_97 : BlkOk ["_law_script", "_law_deck_here", "_law_go", "_law_w", "_law_texts_now", "_law_x", "_law_it", "_law_spelled_ones", "_law_some", "_law_here", "_law_duo", "_law_parts", "_law_way", "_law_at", "_law_y", "_law_part_now"] (defScope s_law) cs_219_97 [("_law_part_now", 15)] := ⟨rfl, by decide, by decide, by decide, by decide⟩
def cs_223_11 : Scope := { kind := PySem.ScopeKind.function, names := [ (PySem.Str.ofString ".0", PySem.NameKind.local), (PySem.Str.ofString "_law_x", PySem.NameKind.local), (PySem.Str.ofString "_law_y", PySem.NameKind.local), (PySem.Str.ofString "_law_it", PySem.NameKind.free)], isGenerator := false, isCoroutine := false, more := [] : PySem.Scope }
theorem bo_223_11 : BlkOk ["_law_script", "_law_deck_here", "_law_go", "_law_w", "_law_texts_now", "_law_x", "_law_it", "_law_spelled_ones", "_law_some", "_law_here", "_law_duo", "_law_parts", "_law_way", "_law_at", "_law_y", "_law_part_now"] (defScope s_law) cs_223_11 [("_law_x", 5), ("_law_y", 14)] := ⟨rfl, by decide, by decide, by decide, by decide⟩
def cs_227_15 : Scope := { kind := PySem.ScopeKind.function, names := [ (PySem.Str.ofString ".0", PySem.NameKind.local), (PySem.Str.ofString "_law_y", PySem.NameKind.local), (PySem.Str.ofString "_law_it", PySem.NameKind.free), (PySem.Str.ofString "_law_spelled_ones", PySem.NameKind.free), (PySem.Str.ofString "_law_x", PySem.NameKind.free)], isGenerator := false, isCoroutine := false, more := [] : PySem.Scope }
theorem bo_227_15 : BlkOk ["_law_script", "_law_deck_here", "_law_go", "_law_w", "_law_texts_now", "_law_x", "_law_it", "_law_spelled_ones", "_law_some", "_law_here", "_law_duo", "_law_parts", "_law_way", "_law_at", "_law_y", "_law_part_now"] (defScope s_law) cs_227_15 [("_law_y", 14)] := ⟨rfl, by decide, by decide, by decide, by decide⟩
abbrev N_law : List Str := ["_law_script", "_law_deck_here", "_law_go", "_law_w", "_law_texts_now", "_law_x", "_law_it", "_law_spelled_ones", "_law_some", "_law_here", "_law_duo", "_law_parts", "_law_way", "_law_at", "_law_y", "_law_part_now"]
noncomputable def m_law : SS → SO := (mSeq (mFor (mRng1 (mCons (mC (.int 4)) mNil)) (gNm 2) (mSeq (mSet 3 (mOw (mDraw 1 G__law_plan (mCons (mC (.int 3)) (mCons (mC (.int 5)) (mCons (mC (.int 2)) mNil))))))
    (mSeq (mPut 3 (mC (.str "ways")) (mLc (mItems (mBin fDGet (mBor 3) (mB (mC (.str "ways"))))) [12] (gNm 12) (mCmp fNeA (mB (mBin gAdd (mB (mBin fIx (mBor 12) (mB (mC (.int 1))))) (mB (mBin fIx (mBor 12) (mB (mC (.int 2))))))) (mB (mC (.str "")))) (mVar 12)))
    (mSeq (mParT [6, 7] (mNCons (mFz (mRes G__law_code (mCons (mVar 3) mNil))) (mNCons (mOw mDict0) mNNil)))
    (mSeq (mFor (mItems (mRes G__law_ways (mCons (mVar 3) (mCons (mC (.int 4)) mNil)))) (gTupV 2 (gConsV (gNm 8) (gConsV (gNm 9) gNilV))) (mSeq (mSet 10 (mFz (mMeth "Pacer" "spelled" List.cons G_Pacer_spelled (mVar 6) (mCons (mVar 8) mNil))))
    (mSeq (mSet 11 (mOw (mLc (mItems (mVar 8)) [13] (gNm 13) mYes (mMeth "Pacer" "spelled" List.cons G_Pacer_spelled (mVar 6) (mCons (mTup (mCons (mVar 13) mNil)) mNil)))))
    (mSeq (mIfS (mCmp fNeA (mBor 10) (mB (mTup (mCons (mM1 fJoin (mB (mC (.str ""))) (mB (mLc (mItems (mVar 11)) [15] (gNm 15) mYes (mBin fIx (mBor 15) (mB (mC (.int 0))))))) (mCons (mM1 fJoin (mB (mC (.str ""))) (mB (mLc (mItems (mVar 11)) [15] (gNm 15) mYes (mBin fIx (mBor 15) (mB (mC (.int 1))))))) mNil))))) (mRet (mC (.bool false))) .nx)
    (mIfS (mCmp fInA (mBor 9) (mB (mBin fDGet (mBor 3) (mB (mC (.str "out")))))) (mPut 7 (mVar 10) (mC (.bool true))) .nx)))))
    (mSeq (mIfS (mCmp fNeA (mB (mLc (mItems (mSl (mB (mOu fListA (mConsB (mBor 7) mNilB))) mPart0 (mPart (mC (.int 60))))) [5, 14] (gTupV 2 (gConsV (gNm 5) (gConsV (gNm 14) gNilV))) (mCmp fIsNotA (mB (mMeth "Pacer" "tells" List.cons G_Pacer_tells (mVar 6) (mCons (mVar 5) (mCons (mVar 14) mNil)))) (mB (mC (.bool true)))) (mC (.int 1)))) (mB (mLst mNil))) (mRet (mC (.bool false))) .nx)
    (mSeq (mSet 4 (mFz (mRes G__law_texts (mCons (mC (.str "ab")) (mCons (mC (.int 2)) mNil)))))
    (mFor (mItems (mVar 4)) (gNm 5) (mIfS (mCmp fNeA (mB (mLc (mItems (mVar 4)) [14] (gNm 14) (mCmp fNeA (mB (mMeth "Pacer" "tells" List.cons G_Pacer_tells (mVar 6) (mCons (mVar 5) (mCons (mVar 14) mNil)))) (mB (mBl (mCmp fInA (mB (mTup (mCons (mVar 5) (mCons (mVar 14) mNil)))) (mBor 7))))) (mVar 14))) (mB (mLst mNil))) (mRet (mC (.bool false))) .nx)))))))))
    (mRet (mC (.bool true))))
abbrev LS (a : Addr) (D : Dk) (z2 z3 z4 z5 z6 z7 z8 z9 z10 z11 : Option SV) : SS := [none, some (.dk a D.1 D.2.1 D.2.2), z2, z3, z4, z5, z6, z7, z8, z9, z10, z11, none, none, none, none]
theorem e_PutW {n : Nat} {b e : List Nat} {mv mv' : List Mv} {m : SS → EO Dt} {S S1 S2 : SS} (h : m S = .ok (.list (mv'.map mvD)) S1) (h1 : S1[3]? = some (some (.o (wD n b mv e)))) (hs : S1.set 3 (some (.o (wD n b mv' e))) = S2) : mPut 3 (mC (.str "ways")) m S = .nx S2 :=
  e_Put (k := .str "ways") (ds := [(.str "wide", .int n), (.str "in", natsD b), (.str "ways", .list (mv.map mvD)), (.str "out", natsD e)]) (ds0 := [(.str "wide", .int n), (.str "in", natsD b), (.str "ways", .list (mv.map mvD)), (.str "out", natsD e)]) (es := [(.str "wide", .int n), (.str "in", natsD b), (.str "ways", .list (mv'.map mvD)), (.str "out", natsD e)]) h h1 rfl h1 rfl (show 4 < sizeLine by decide) (by rfl) hs
theorem cutG_take {α : Type} (xs : List α) (n : Nat) : cutG xs none (some (n : Int)) = xs.take n := by
  unfold cutG
  show (xs.drop 0).take ((if (n : Int) < 0 then ((n : Int) + (xs.length : Int)).toNat else min (n : Int).toNat xs.length) - 0) = xs.take n
  rw [if_neg (by omega), Int.toNat_natCast, List.drop_zero, Nat.sub_zero]
  rcases Nat.le_total n xs.length with h | h
  · rw [Nat.min_eq_left h]
  · rw [Nat.min_eq_right h, List.take_of_length_le (Nat.le_refl _), List.take_of_length_le h]
def txs : List Str := ["", "a", "b", "aa", "ab", "ba", "bb"]
theorem ts : ∀ x ∈ txs, x.length ≤ 2 := by decide
theorem good_law (a : Addr) (ns : List Int) (h : ns.length ≤ 63) : ∃ ss, m_law (startW a N_law ns.reverse (blend ns.reverse)) = .rt (.bool true) ss := by
  have f0 : Fine 0 ((ns.reverse, blend ns.reverse, 0) : Dk) := ⟨by show ns.reverse.length ≤ 100; rw [List.length_reverse]; omega, Int.le_refl _, by show (0 : Int) ≤ _; omega⟩
  show ∃ ss, m_law (LS a (ns.reverse, blend ns.reverse, 0) none none none none none none none none none none) = .rt (.bool true) ss
  generalize ((ns.reverse, blend ns.reverse, 0) : Dk) = D0 at f0
  apply o_Rw
  unfold m_law
  repeat' (first | array_get_dec)
  refine w_For (fun k ss => ∃ D z2 z3 z4 z5 z6 z7 z8 z9 z10 z11, ss = LS a D z2 z3 z4 z5 z6 z7 z8 z9 z10 z11 ∧ Fine (k * 1300) D) (items := List.range 4) (enc := fun s : Nat => (.int s : Dt)) (by repeat' (first | array_get_dec)) ⟨_, _, _, _, _, _, _, _, _, _, _, rfl, f0⟩ ?_ ?_
  · rintro k hk _ ⟨D, z2, z3, z4, z5, z6, z7, z8, z9, z10, z11, rfl, f⟩
    rw [List.getElem_range]
    rw [List.length_range] at hk
    obtain ⟨n, b, mv0, e, D1, g1, P1, f1⟩ := plok D (k * 1300) 3 5 2 f (by omega) (by omega) (by omega) (by omega) (by omega)
    have M0 := P1.sml (by decide) (by decide)
    have ml0 : mv0.length ≤ 5 := P1.2.2.2.2.1
    have u1 : ∀ m, fIx (mvD m) (.int 1) = some (.str m.u) := fun _ => rfl
    have u2 : ∀ m, fIx (mvD m) (.int 2) = some (.str m.v) := fun _ => rfl
    have uv : ∀ m ∈ mv0, m.u.length + m.v.length ≤ sizeLine := fun m hm => sl1000 (by have := M0.k m hm; omega)
    have M := M0.filt (fun m => !decide (m.u ++ m.v = ("" : Str)))
    have P := M.P
    have ml : (mv0.filter fun m => !decide (m.u ++ m.v = ("" : Str))).length ≤ 5 := Nat.le_trans (List.length_filter_le _ _) ml0
    have ne : ∀ m ∈ (mv0.filter fun m => !decide (m.u ++ m.v = ("" : Str))), 1 ≤ m.u.length + m.v.length := fun m hm => by
      have h := (List.mem_filter.mp hm).2
      have h : ¬ (m.u ++ m.v = ("" : Str)) := by simpa using h
      rw [← app_len]
      rcases Nat.eq_zero_or_pos (m.u ++ m.v).length with z | z
      · refine absurd ?_ h
        have : (m.u ++ m.v).cps.toList = [] := List.eq_nil_of_length_eq_zero (by rw [len_cps]; exact z)
        rw [← txt_cps (m.u ++ m.v), this]
        rfl
      · exact z
    have bl : b.length ≤ 3 := by have := P1.2.2.1.length_le; rw [List.length_range] at this; have := P1.2.1; omega
    apply go_turn
    · repeat' (first | array_get_dec)
    repeat' (first | with_reducible exact g1 | with_reducible apply e_PutW | with_reducible exact u1 _ | with_reducible exact u2 _ | with_reducible exact uv _ (by assumption) | with_reducible exact q_code P | array_get_dec)
    generalize (mv0.filter fun m => !decide (m.u ++ m.v = ("" : Str))) = mv at M P ml ne
    have wl : (alls mv (b.map fun s => (([], s) : Wy)) 4).length ≤ 9375 := alls_le ml (by rw [List.length_map]; exact bl) (by decide)
    have wdp : ∀ w ∈ alls mv (b.map fun s => (([], s) : Wy)) 4, w.1.length ≤ 4 ∧ ∀ i ∈ w.1, i < mv.length := fun w hw => by
      obtain ⟨j, hj, h⟩ := (alls_mem 4).mp hw
      obtain ⟨h1, h2⟩ := wys_deep j w h
      exact ⟨by omega, h2⟩
    have tw : ∀ w ∈ alls mv (b.map fun s => (([], s) : Wy)) 4, w.2 ∈ e → Tells b mv e (spellL mv w.1) (spellR mv w.1) := fun w hw he => told_way hw he
    have tk : ∀ {x y : Str}, x.length + y.length ≤ 4 → (Tells b mv e x y ↔ ∃ w ∈ alls mv (b.map fun s => (([], s) : Wy)) 4, w.2 ∈ e ∧ (spellL mv w.1, spellR mv w.1) = (x, y)) := fun h => tells_ways ne h
    have qw := q_ways (n := n) (b := b) (e := e) (mv := mv) bl ml
    generalize alls mv (b.map fun s => (([], s) : Wy)) 4 = wl0 at wl wdp tw tk qw
    refine w_For (fun j ss => ∃ z8 z9 z10 z11, ss = LS a D1 (some (.v (.int (k : Nat)))) (some (.v (wD n b mv e))) z4 z5 (some (.v (pcD n b mv e))) (some (.o (.dict (prsD (duos mv e (wl0.take j)))))) z8 z9 z10 z11) (items := wl0) (enc := wyD) (by repeat' (first | with_reducible exact qw | array_get_dec)) ⟨_, _, _, _, rfl⟩ ?_ ?_
    · rintro j hj _ ⟨z8, z9, z10, z11, rfl⟩
      have hwm : wl0[j] ∈ wl0 := List.getElem_mem _
      generalize hw : wl0[j] = w at hwm
      have tk1 : wl0.take (j + 1) = wl0.take j ++ [w] := by rw [List.take_succ, List.getElem?_eq_getElem hj, hw]; rfl
      obtain ⟨d1, d2⟩ := wdp w hwm
      apply go_turn
      · repeat' (first | array_get_dec)
      have one : ∀ i ∈ w.1, G_Pacer_spelled [pcD n b mv e, .tuple [.int (i : Nat)]] = .ok (.tuple [.str (mvAt mv i).u, .str (mvAt mv i).v]) := fun i hi => by
        have q := q_sp M (is := [i]) (fun i' h => by rw [List.mem_singleton.mp h]; exact d2 i hi) (by rw [List.length_singleton]; omega)
        have e1 : spellL mv [i] = (mvAt mv i).u := join_one _
        have e2 : spellR mv [i] = (mvAt mv i).v := join_one _
        rw [e1, e2] at q
        exact q
      have x0 : ∀ i, fIx (.tuple [.str (mvAt mv i).u, .str (mvAt mv i).v]) (.int 0) = some (.str (mvAt mv i).u) := fun _ => rfl
      have x1 : ∀ i, fIx (.tuple [.str (mvAt mv i).u, .str (mvAt mv i).v]) (.int 1) = some (.str (mvAt mv i).v) := fun _ => rfl
      have j1 := q_join (z := "") (f := fun i => (mvAt mv i).u) (l := w.1) (join_bd d2 (fun m hm => (M.k m hm).1) (by omega))
      have j2 := q_join (z := "") (f := fun i => (mvAt mv i).v) (l := w.1) (join_bd d2 (fun m hm => (M.k m hm).2) (by omega))
      have l1 := spell_let (f := Mv.u) d2 (by omega) fun m hm => ⟨(P.hm m hm).2.2.1, (M.k m hm).1⟩
      have l2 := spell_let (f := Mv.v) d2 (by omega) fun m hm => ⟨(P.hm m hm).2.2.2, (M.k m hm).2⟩
      have nq : fNeA (.tuple [.str (spellL mv w.1), .str (spellR mv w.1)]) (.tuple [.str (Txt.join "" (w.1.map fun i => (mvAt mv i).u)), .str (Txt.join "" (w.1.map fun i => (mvAt mv i).v))]) = some false := neA_same (shaped_of (k := 1) (lay_tup (k := 0) fun d hd => by
        simp only [List.mem_cons, List.not_mem_nil, or_false] at hd
        rcases hd with rfl | rfl
        · exact lay_str (letW_ok l1.1)
        · exact lay_str (letW_ok l2.1)) (by decide))
      have fl : fLook (prsD (duos mv e (wl0.take j))) (.tuple [.str (spellL mv w.1), .str (spellR mv w.1)]) = some (if (spellL mv w.1, spellR mv w.1) ∈ duos mv e (wl0.take j) then some (.bool true) else none) := fLook_prs (spellL mv w.1, spellR mv w.1) _
      have pu : putD (prsD (duos mv e (wl0.take j))) (.tuple [.str (spellL mv w.1), .str (spellR mv w.1)]) (.bool true) = prsD (insP (duos mv e (wl0.take j)) (spellL mv w.1, spellR mv w.1)) := put_prs (spellL mv w.1, spellR mv w.1) _
      have ln : (prsD (duos mv e (wl0.take j))).length < sizeLine := by
        have h1 := duos_len (mv := mv) (e := e) (wl0.take j) []
        rw [List.length_take, List.length_nil] at h1
        have h1 : (duos mv e (wl0.take j)).length ≤ 0 + min j wl0.length := h1
        refine Nat.lt_of_le_of_lt (show _ ≤ 9375 from ?_) (by decide)
        unfold prsD
        rw [List.length_map]
        omega
      repeat' (first | with_reducible exact q_sp M d2 (by omega) | with_reducible exact one _ (by assumption) | with_reducible exact x0 _ | with_reducible exact x1 _ | with_reducible exact j1 | with_reducible exact j2 | with_reducible exact nq | with_reducible exact fl | with_reducible exact pu | with_reducible exact ln | array_get_dec)
      · rename_i hh
        exact ⟨_, _, _, _, by rw [tk1, duos_snoc, duo1, if_pos hh]⟩
      · rename_i hh
        exact ⟨_, _, _, _, by rw [tk1, duos_snoc, duo1, if_neg hh]⟩
    · rintro _ ⟨z8, z9, z10, z11, rfl⟩
      rw [List.take_length]
      have pm : ∀ p, p ∈ duos mv e wl0 ↔ ∃ w ∈ wl0, w.2 ∈ e ∧ (spellL mv w.1, spellR mv w.1) = p := fun p => duos_mem
      generalize duos mv e wl0 = ps at pm
      have ky := keys_prs ps
      have cu : fSl (.list (ps.map prD)) none (some 60) = some (.list ((ps.take 60).map prD)) := by
        show some (PyData.list (cutG (ps.map prD) none (some ((60 : Nat) : Int)))) = _
        rw [cutG_take, List.map_take]
      have tt : ∀ p ∈ ps.take 60, G_Pacer_tells [pcD n b mv e, .str p.1, .str p.2] = .ok (.bool true) := fun p hp => by
        obtain ⟨w, h1, h2, rfl⟩ := (pm p).mp (List.mem_of_mem_take hp)
        obtain ⟨d1, d2⟩ := wdp w h1
        have l1 := (spell_let (f := Mv.u) d2 (by omega) fun m hm => ⟨(P.hm m hm).2.2.1, (M.k m hm).1⟩).2
        have l2 := (spell_let (f := Mv.v) d2 (by omega) fun m hm => ⟨(P.hm m hm).2.2.2, (M.k m hm).2⟩).2
        have := q_tlB (P.px (by have := M.n; omega) (by omega) (x := spellL mv w.1) (y := spellR mv w.1) (Nat.le_trans l1 (by omega)) (Nat.le_trans l2 (by omega)))
        rw [tellsB_iff.mpr (tw w h1 h2)] at this
        exact this
      have it : fIsNotA (.bool true) (.bool true) = some false := rfl
      have nn : fNeA (.list (((ps.take 60).filter fun _ => false).map fun _ => (.int 1 : Dt))) (.list []) = some false := by
        have z : ((ps.take 60).filter fun _ => false) = [] := List.filter_eq_nil_iff.mpr fun _ _ => by simp
        rw [z]
        rfl
      have tx : G__law_texts [.str "ab", .int 2] = .ok (.list (txs.map .str)) := q_texts
      have t60 : (ps.take 60).length ≤ sizeLine := sl1000 (by rw [List.length_take]; omega)
      repeat' (first | with_reducible exact ky | with_reducible exact cu | with_reducible exact tt _ (by assumption) | with_reducible exact it | with_reducible exact nn | with_reducible exact tx | with_reducible exact t60 | array_get_dec)
      refine w_ForI (fun ss => ∃ z5, ss = LS a D1 (some (.v (.int (k : Nat)))) (some (.v (wD n b mv e))) (some (.v (.list (txs.map .str)))) z5 (some (.v (pcD n b mv e))) (some (.o (.dict (prsD ps)))) z8 z9 z10 z11) (items := txs) (enc := fun s : Str => (.str s : Dt)) (by repeat' (first | array_get_dec)) ⟨_, rfl⟩ ?_ ?_
      · rintro x hx _ ⟨z5, rfl⟩
        have tl : ∀ y ∈ txs, G_Pacer_tells [pcD n b mv e, .str x, .str y] = .ok (.bool (tellsB b mv e x y)) := fun y hy => q_tlB (P.px (by have := M.n; omega) (by omega) (Nat.le_trans (ts x hx) (by decide)) (Nat.le_trans (ts y hy) (by decide)))
        have ip : ∀ y, fInA (.tuple [.str x, .str y]) (.dict (prsD ps)) = some (decide ((x, y) ∈ ps)) := fun y => in_prs (x, y) ps
        have nz : fNeA (.list ((txs.filter fun y => !decide (tellsB b mv e x y = decide ((x, y) ∈ ps))).map .str)) (.list []) = some false := by
          have z : (txs.filter fun y => !decide (tellsB b mv e x y = decide ((x, y) ∈ ps))) = [] := List.filter_eq_nil_iff.mpr fun y hy => by
            have h : tellsB b mv e x y = decide ((x, y) ∈ ps) := by
              rw [Bool.eq_iff_iff, tellsB_iff, decide_eq_true_eq, pm (x, y)]
              exact tk (by have := ts x hx; have := ts y hy; omega)
            simp [h]
          rw [z]
          rfl
        apply go_turn
        · repeat' (first | array_get_dec)
        have tL : txs.length ≤ sizeLine := sl1000 (by decide)
        repeat' (first | with_reducible exact tl _ (by assumption) | with_reducible exact ip _ | with_reducible exact nz | with_reducible exact tL | array_get_dec)
      · rintro _ ⟨z5, rfl⟩
        exact ⟨_, _, _, _, _, _, _, _, _, _, _, rfl, f1.up (by omega)⟩
  · rintro _ ⟨D, z2, z3, z4, z5, z6, z7, z8, z9, z10, z11, rfl, f⟩
    repeat' (first | array_get_dec)
section
variable {P : Program} {w : World} {K : PySem.W.Frag} {mg : Str → Option Value} {base : Heap}
theorem go_law (T : Top w K mg) : Go P w K mg base 7 "law" s_law ["_law_script"] (spL K) := by
  obtain ⟨f, fd, F, hm, hb⟩ := T.d_law.ex
  obtain ⟨f1, fd1, F1, hm1, hb1, M⟩ := (go__law_deck (P := P) (w := w) (base := base) T).ex
  exact ⟨f, fd, F, hm, hb, fn_law T.hw F sc_law (by decide) (by decide) rfl M (by decide) hm1 F1.kp hb1 rfl rfl (fun _ _ _ _ _ _ => .inl rfl) (fun _ _ _ _ _ _ => by first | exact .inl rfl | exact .inr rfl) (fun _ _ _ _ _ _ => rfl) (fun cdv A outer s H E C =>
    (ss_cons (s_for C (i_rng1 C (a_cons v_int a_nil) (by intro _; rfl) T.b_range) (gn C 2) (ss_cons (set1 C 3 (n_o (drawO C 1 (go__law_plan T) (by first | decide | omega) (a_cons v_int (a_cons v_int (a_cons v_int a_nil))) (fun ss ds ss' h => congrArg (· + 1) ((mCons_len (mCons_len (mCons_len mNil_len))) ss ds ss' h)))))
    (ss_cons (s_dput C 3 v_str (v_new (o_lc C (fun _ => bo_214_25) (i_sq C (v_dget C (bn 3) (b_val v_str))) (gn (C.blk cs_214_25) 12) (ts_one (t_cmp (b_val (v_bin (b_val (v_ix (C.blk cs_214_25) (bn 12) (b_val v_int))) (b_val (v_ix (C.blk cs_214_25) (bn 12) (b_val v_int))) (s_add (C.blk cs_214_25)))) (b_val v_str) (c_neA (C.blk cs_214_25)) rfl)) (nm 12))))
    (ss_cons (s_parT C (sl_cons C 6 (sl_cons C 7 sl_nil)) (ns_cons (n_v (call C (go__law_code T) (by first | decide | omega) rfl (a_cons (nm 3) a_nil) (mCons_len mNil_len))) (ns_cons (n_o o_dict0) ns_nil)) rfl (by decide))
    (ss_cons (s_for C (i_sq C (call C (go__law_ways T) (by first | decide | omega) rfl (a_cons (nm 3) (a_cons v_int a_nil)) (mCons_len (mCons_len mNil_len)))) (g_tup C (gs_cons (gn C 8) (gs_cons (gn C 9) gs_nil))) (ss_cons (set1 C 10 (n_v (v_meth C T.k_Pacer (go_Pacer_spelled T) (by first | decide | omega) (nm 6) (a_cons (nm 8) a_nil) (fun ss ds ss' h => congrArg (· + 1) ((mCons_len mNil_len) ss ds ss' h)))))
    (ss_cons (s_setLc C 11 (by intro _; rfl) (by intro _; rfl) (by intro _; rfl) (fun _ => bo_218_25) (i_sq C (nm 8)) (gn (C.blk cs_218_25) 13) ts_nil (v_meth (C.blk cs_218_25) T.k_Pacer (go_Pacer_spelled T) (by first | decide | omega) (nm 6) (a_cons (v_tup (a_cons (nm 13) a_nil)) a_nil) (fun ss ds ss' h => congrArg (· + 1) ((mCons_len mNil_len) ss ds ss' h))))
    (ss_cons (s_if (t_cmp (bn 10) (b_val (v_tup (a_cons (v_m1 PySem.F.slot_str_join PySem.F.type_str_join (u_join C) (b_val v_str) (b_val (v_new (o_lc C (fun _ => bo_219_36) (i_sq C (nm 11)) (gn (C.blk cs_219_36) 15) ts_nil (v_ix (C.blk cs_219_36) (bn 15) (b_val v_int)))))) (a_cons (v_m1 PySem.F.slot_str_join PySem.F.type_str_join (u_join C) (b_val v_str) (b_val (v_new (o_lc C (fun _ => bo_219_97) (i_sq C (nm 11)) (gn (C.blk cs_219_97) 15) ts_nil (v_ix (C.blk cs_219_97) (bn 15) (b_val v_int)))))) a_nil)))) (c_neA C) rfl) (ss_one (s_ret v_bl)) ss_nil)
    (ss_one (s_if (t_cmp (bn 9) (b_val (v_dget C (bn 3) (b_val v_str))) (c_inA C) rfl) (ss_one (s_dput C 7 (nm 10) v_bl)) ss_nil))))))
    (ss_cons (s_if (t_cmp (b_val (v_new (o_lc C (fun _ => bo_223_11) (i_sq C (v_slice C (b_val (v_new (o_buT C (u_listA C) (bs_cons (bn 7) bs_nil) (by intro _; rfl) T.b_list PyProof.Rows.boot_list))) p_none (p_some v_int))) (g_tup (C.blk cs_223_11) (gs_cons (gn (C.blk cs_223_11) 5) (gs_cons (gn (C.blk cs_223_11) 14) gs_nil))) (ts_one (t_cmp (b_val (v_meth (C.blk cs_223_11) T.k_Pacer (go_Pacer_tells T) (by first | decide | omega) (nm 6) (a_cons (nm 5) (a_cons (nm 14) a_nil)) (fun ss ds ss' h => congrArg (· + 1) ((mCons_len (mCons_len mNil_len)) ss ds ss' h)))) (b_val v_bl) c_isNotA rfl)) v_int))) (b_val (v_new (o_lst a_nil))) (c_neA C) rfl) (ss_one (s_ret v_bl)) ss_nil)
    (ss_cons (set1 C 4 (n_v (call C (go__law_texts T) (by first | decide | omega) rfl (a_cons v_str (a_cons v_int a_nil)) (mCons_len (mCons_len mNil_len)))))
    (ss_one (s_for C (i_sq C (nm 4)) (gn C 5) (ss_one (s_if (t_cmp (b_val (v_new (o_lc C (fun _ => bo_227_15) (i_sq C (nm 4)) (gn (C.blk cs_227_15) 14) (ts_one (t_cmp (b_val (v_meth (C.blk cs_227_15) T.k_Pacer (go_Pacer_tells T) (by first | decide | omega) (nm 6) (a_cons (nm 5) (a_cons (nm 14) a_nil)) (fun ss ds ss' h => congrArg (· + 1) ((mCons_len (mCons_len mNil_len)) ss ds ss' h)))) (b_val (v_cmp (b_val (v_tup (a_cons (nm 5) (a_cons (nm 14) a_nil)))) (bn 7) (c_inA (C.blk cs_227_15)) rfl)) (c_neA (C.blk cs_227_15)) rfl)) (nm 14)))) (b_val (v_new (o_lst a_nil))) (c_neA C) rfl) (ss_one (s_ret v_bl)) ss_nil)))))))))))
    (ss_one (s_ret v_bl)))) good_law⟩
end


omit [WW] in
theorem all_mk {l : PySem.W.OpenLaw} {w : World} {K : PySem.W.Frag} {h : Heap} {mg : Str → Option Value} {fa : Addr} (X : K.In h) (G : h.Ns mainGlobals mg) (hfa : mg "law" = some (.ref fa))
    {C : Addr} (aC : PySem.W.nsIn K mainGlobals "Pacer" = some (some (.ref C))) (pgC : PySem.W.plainGet K C Str.empty = true) (hdC : PySem.W.hasDictIn K C = true) (poC : PySem.W.plainOver K C = true) (saC : PySem.W.findIn K (.ref C) "__setattr__" = some (some (.builtin "object.__setattr__"))) (mkC : PySem.W.makesIn K C = true) (kpC : PySem.W.keepIn K (.ref C) = true)
    (fC0 : PySem.W.findIn K (.ref C) "size" = some none)
    (fC1 : PySem.W.findIn K (.ref C) "begins" = some none)
    (fC2 : PySem.W.findIn K (.ref C) "moves" = some none)
    (fC3 : PySem.W.findIn K (.ref C) "ends" = some none)
    {f0 : Addr} {od0 an0 : Option Addr} {sl0 : Array (Option Value)} {oc0 kV0 dc0 pm0 cd0 ct0 : Value}
    (a0 : PySem.W.nsIn K mainGlobals "_law_deck" = some (some (.ref f0))) (l0 : K.lookup f0 = some ⟨oc0, od0, .func (PySem.W.fnOf "_law_deck" "_law_deck" (defArgs s__law_deck) (defBody s__law_deck) (defScope s__law_deck) .none kV0 dc0 pm0 an0 cd0 ct0), sl0⟩) (c0 : PySem.W.codeIn K cd0 "_law_deck" = true) (k0 : PySem.W.keepIn K (.ref f0) = true)
    {f1 : Addr} {od1 an1 : Option Addr} {sl1 : Array (Option Value)} {oc1 kV1 dc1 pm1 cd1 ct1 : Value}
    (a1 : PySem.W.nsIn K mainGlobals "_law_draw" = some (some (.ref f1))) (l1 : K.lookup f1 = some ⟨oc1, od1, .func (PySem.W.fnOf "_law_draw" "_law_draw" (defArgs s__law_draw) (defBody s__law_draw) (defScope s__law_draw) .none kV1 dc1 pm1 an1 cd1 ct1), sl1⟩) (c1 : PySem.W.codeIn K cd1 "_law_draw" = true) (k1 : PySem.W.keepIn K (.ref f1) = true)
    {f2 : Addr} {od2 an2 : Option Addr} {sl2 : Array (Option Value)} {oc2 kV2 dc2 pm2 cd2 ct2 : Value}
    (a2 : PySem.W.nsIn K mainGlobals "_law_pick" = some (some (.ref f2))) (l2 : K.lookup f2 = some ⟨oc2, od2, .func (PySem.W.fnOf "_law_pick" "_law_pick" (defArgs s__law_pick) (defBody s__law_pick) (defScope s__law_pick) .none kV2 dc2 pm2 an2 cd2 ct2), sl2⟩) (c2 : PySem.W.codeIn K cd2 "_law_pick" = true) (k2 : PySem.W.keepIn K (.ref f2) = true)
    {f3 : Addr} {od3 an3 : Option Addr} {sl3 : Array (Option Value)} {oc3 kV3 dc3 pm3 cd3 ct3 : Value}
    (a3 : PySem.W.nsIn K mainGlobals "_law_word" = some (some (.ref f3))) (l3 : K.lookup f3 = some ⟨oc3, od3, .func (PySem.W.fnOf "_law_word" "_law_word" (defArgs s__law_word) (defBody s__law_word) (defScope s__law_word) .none kV3 dc3 pm3 an3 cd3 ct3), sl3⟩) (c3 : PySem.W.codeIn K cd3 "_law_word" = true) (k3 : PySem.W.keepIn K (.ref f3) = true)
    {f4 : Addr} {od4 an4 : Option Addr} {sl4 : Array (Option Value)} {oc4 kV4 dc4 pm4 cd4 ct4 : Value}
    (a4 : PySem.W.nsIn K mainGlobals "_law_plan" = some (some (.ref f4))) (l4 : K.lookup f4 = some ⟨oc4, od4, .func (PySem.W.fnOf "_law_plan" "_law_plan" (defArgs s__law_plan) (defBody s__law_plan) (defScope s__law_plan) .none kV4 dc4 pm4 an4 cd4 ct4), sl4⟩) (c4 : PySem.W.codeIn K cd4 "_law_plan" = true) (k4 : PySem.W.keepIn K (.ref f4) = true)
    {f5 : Addr} {od5 an5 : Option Addr} {sl5 : Array (Option Value)} {oc5 kV5 dc5 pm5 cd5 ct5 : Value}
    (a5 : PySem.W.nsIn K mainGlobals "is_integer" = some (some (.ref f5))) (l5 : K.lookup f5 = some ⟨oc5, od5, .func (PySem.W.fnOf "is_integer" "is_integer" (defArgs s_is_integer) (defBody s_is_integer) (defScope s_is_integer) .none kV5 dc5 pm5 an5 cd5 ct5), sl5⟩) (c5 : PySem.W.codeIn K cd5 "is_integer" = true) (k5 : PySem.W.keepIn K (.ref f5) = true)
    {f6 : Addr} {od6 an6 : Option Addr} {sl6 : Array (Option Value)} {oc6 kV6 dc6 pm6 cd6 ct6 : Value}
    (a6 : PySem.W.nsIn K mainGlobals "is_index" = some (some (.ref f6))) (l6 : K.lookup f6 = some ⟨oc6, od6, .func (PySem.W.fnOf "is_index" "is_index" (defArgs s_is_index) (defBody s_is_index) (defScope s_is_index) .none kV6 dc6 pm6 an6 cd6 ct6), sl6⟩) (c6 : PySem.W.codeIn K cd6 "is_index" = true) (k6 : PySem.W.keepIn K (.ref f6) = true)
    {f7 : Addr} {od7 an7 : Option Addr} {sl7 : Array (Option Value)} {oc7 kV7 dc7 pm7 cd7 ct7 : Value}
    (a7 : PySem.W.nsIn K mainGlobals "are_states" = some (some (.ref f7))) (l7 : K.lookup f7 = some ⟨oc7, od7, .func (PySem.W.fnOf "are_states" "are_states" (defArgs s_are_states) (defBody s_are_states) (defScope s_are_states) .none kV7 dc7 pm7 an7 cd7 ct7), sl7⟩) (c7 : PySem.W.codeIn K cd7 "are_states" = true) (k7 : PySem.W.keepIn K (.ref f7) = true)
    {f8 : Addr} {od8 an8 : Option Addr} {sl8 : Array (Option Value)} {oc8 kV8 dc8 pm8 cd8 ct8 : Value}
    (a8 : PySem.W.nsIn K mainGlobals "is_text" = some (some (.ref f8))) (l8 : K.lookup f8 = some ⟨oc8, od8, .func (PySem.W.fnOf "is_text" "is_text" (defArgs s_is_text) (defBody s_is_text) (defScope s_is_text) .none kV8 dc8 pm8 an8 cd8 ct8), sl8⟩) (c8 : PySem.W.codeIn K cd8 "is_text" = true) (k8 : PySem.W.keepIn K (.ref f8) = true)
    {f9 : Addr} {od9 an9 : Option Addr} {sl9 : Array (Option Value)} {oc9 kV9 dc9 pm9 cd9 ct9 : Value}
    (a9 : PySem.W.nsIn K mainGlobals "is_move" = some (some (.ref f9))) (l9 : K.lookup f9 = some ⟨oc9, od9, .func (PySem.W.fnOf "is_move" "is_move" (defArgs s_is_move) (defBody s_is_move) (defScope s_is_move) .none kV9 dc9 pm9 an9 cd9 ct9), sl9⟩) (c9 : PySem.W.codeIn K cd9 "is_move" = true) (k9 : PySem.W.keepIn K (.ref f9) = true)
    {f10 : Addr} {od10 an10 : Option Addr} {sl10 : Array (Option Value)} {oc10 kV10 dc10 pm10 cd10 ct10 : Value}
    (a10 : PySem.W.findIn K (.ref C) "__init__" = some (some (.ref f10))) (i10 : PySem.W.isFn K (.ref f10) = true) (l10 : K.lookup f10 = some ⟨oc10, od10, .func (PySem.W.fnOf "__init__" "Pacer.__init__" (defArgs s_Pacer___init__) (defBody s_Pacer___init__) (defScope s_Pacer___init__) .none kV10 dc10 pm10 an10 cd10 ct10), sl10⟩) (c10 : PySem.W.codeIn K cd10 "Pacer.__init__" = true) (k10 : PySem.W.keepIn K (.ref f10) = true)
    {f11 : Addr} {od11 an11 : Option Addr} {sl11 : Array (Option Value)} {oc11 kV11 dc11 pm11 cd11 ct11 : Value}
    (a11 : PySem.W.nsIn K mainGlobals "_law_code" = some (some (.ref f11))) (l11 : K.lookup f11 = some ⟨oc11, od11, .func (PySem.W.fnOf "_law_code" "_law_code" (defArgs s__law_code) (defBody s__law_code) (defScope s__law_code) .none kV11 dc11 pm11 an11 cd11 ct11), sl11⟩) (c11 : PySem.W.codeIn K cd11 "_law_code" = true) (k11 : PySem.W.keepIn K (.ref f11) = true)
    {f12 : Addr} {od12 an12 : Option Addr} {sl12 : Array (Option Value)} {oc12 kV12 dc12 pm12 cd12 ct12 : Value}
    (a12 : PySem.W.nsIn K mainGlobals "_law_ways" = some (some (.ref f12))) (l12 : K.lookup f12 = some ⟨oc12, od12, .func (PySem.W.fnOf "_law_ways" "_law_ways" (defArgs s__law_ways) (defBody s__law_ways) (defScope s__law_ways) .none kV12 dc12 pm12 an12 cd12 ct12), sl12⟩) (c12 : PySem.W.codeIn K cd12 "_law_ways" = true) (k12 : PySem.W.keepIn K (.ref f12) = true)
    {f13 : Addr} {od13 an13 : Option Addr} {sl13 : Array (Option Value)} {oc13 kV13 dc13 pm13 cd13 ct13 : Value}
    (a13 : PySem.W.findIn K (.ref C) "spelled" = some (some (.ref f13))) (i13 : PySem.W.isFn K (.ref f13) = true) (l13 : K.lookup f13 = some ⟨oc13, od13, .func (PySem.W.fnOf "spelled" "Pacer.spelled" (defArgs s_Pacer_spelled) (defBody s_Pacer_spelled) (defScope s_Pacer_spelled) .none kV13 dc13 pm13 an13 cd13 ct13), sl13⟩) (c13 : PySem.W.codeIn K cd13 "Pacer.spelled" = true) (k13 : PySem.W.keepIn K (.ref f13) = true)
    {f14 : Addr} {od14 an14 : Option Addr} {sl14 : Array (Option Value)} {oc14 kV14 dc14 pm14 cd14 ct14 : Value}
    (a14 : PySem.W.findIn K (.ref C) "further_places" = some (some (.ref f14))) (i14 : PySem.W.isFn K (.ref f14) = true) (l14 : K.lookup f14 = some ⟨oc14, od14, .func (PySem.W.fnOf "further_places" "Pacer.further_places" (defArgs s_Pacer_further_places) (defBody s_Pacer_further_places) (defScope s_Pacer_further_places) .none kV14 dc14 pm14 an14 cd14 ct14), sl14⟩) (c14 : PySem.W.codeIn K cd14 "Pacer.further_places" = true) (k14 : PySem.W.keepIn K (.ref f14) = true)
    {f15 : Addr} {od15 an15 : Option Addr} {sl15 : Array (Option Value)} {oc15 kV15 dc15 pm15 cd15 ct15 : Value}
    (a15 : PySem.W.findIn K (.ref C) "tells" = some (some (.ref f15))) (i15 : PySem.W.isFn K (.ref f15) = true) (l15 : K.lookup f15 = some ⟨oc15, od15, .func (PySem.W.fnOf "tells" "Pacer.tells" (defArgs s_Pacer_tells) (defBody s_Pacer_tells) (defScope s_Pacer_tells) .none kV15 dc15 pm15 an15 cd15 ct15), sl15⟩) (c15 : PySem.W.codeIn K cd15 "Pacer.tells" = true) (k15 : PySem.W.keepIn K (.ref f15) = true)
    {f16 : Addr} {od16 an16 : Option Addr} {sl16 : Array (Option Value)} {oc16 kV16 dc16 pm16 cd16 ct16 : Value}
    (a16 : PySem.W.nsIn K mainGlobals "_law_texts" = some (some (.ref f16))) (l16 : K.lookup f16 = some ⟨oc16, od16, .func (PySem.W.fnOf "_law_texts" "_law_texts" (defArgs s__law_texts) (defBody s__law_texts) (defScope s__law_texts) .none kV16 dc16 pm16 an16 cd16 ct16), sl16⟩) (c16 : PySem.W.codeIn K cd16 "_law_texts" = true) (k16 : PySem.W.keepIn K (.ref f16) = true)
    {f17 : Addr} {od17 an17 : Option Addr} {sl17 : Array (Option Value)} {oc17 kV17 dc17 pm17 cd17 ct17 : Value}
    (a17 : PySem.W.nsIn K mainGlobals "law" = some (some (.ref f17))) (l17 : K.lookup f17 = some ⟨oc17, od17, .func (PySem.W.fnOf "law" "law" (defArgs s_law) (defBody s_law) (defScope s_law) .none kV17 dc17 pm17 an17 cd17 ct17), sl17⟩) (c17 : PySem.W.codeIn K cd17 "law" = true) (k17 : PySem.W.keepIn K (.ref f17) = true)
    {tc0 : Tok} (y0 : PySem.W.nsIn K mainGlobals "LETTERS" = some (some (.str "abcdefghijklmnopqrstuvwxyz" tc0)))
    {tc1 : Tok} (y1 : PySem.W.nsIn K mainGlobals "PARTS" = some (some (.int (4) tc1)))
    (z0 : PySem.W.nsIn K mainGlobals "all" = some none)
    (z1 : PySem.W.nsIn K mainGlobals "any" = some none)
    (z2 : PySem.W.nsIn K mainGlobals "bool" = some none)
    (z3 : PySem.W.nsIn K mainGlobals "enumerate" = some none)
    (z4 : PySem.W.nsIn K mainGlobals "int" = some none)
    (z5 : PySem.W.nsIn K mainGlobals "isinstance" = some none)
    (z6 : PySem.W.nsIn K mainGlobals "len" = some none)
    (z7 : PySem.W.nsIn K mainGlobals "list" = some none)
    (z8 : PySem.W.nsIn K mainGlobals "range" = some none)
    (z9 : PySem.W.nsIn K mainGlobals "str" = some none)
    (z10 : PySem.W.nsIn K mainGlobals "sum" = some none)
    (z11 : PySem.W.nsIn K mainGlobals "tuple" = some none)
    (z12 : PySem.W.nsIn K mainGlobals "zip" = some none)
    : ∃ fd : FuncData, (∀ (s : Shared) (v : Value), BindsTo s fd ⟨[v], []⟩ [("_law_script", v)]) ∧ ∀ base : Heap, K.In base → base.Ns mainGlobals mg → FnG l.prog w K mg base 7 fa fd ["_law_script"] (spL K) := by
  letI : WW := ⟨w, fun _ => C, dkL, dkL_n⟩
  have F0 := fun_mk (st := s__law_deck) l0 c0 k0
  have b0 := F0.binds (ps := ["_law_script"]) fun _ _ _ _ _ _ us hl => match us, hl with | [_], _ => rfl
  have F1 := fun_mk (st := s__law_draw) l1 c1 k1
  have b1 := F1.binds (ps := ["_law_deck_here", "_law_below"]) fun _ _ _ _ _ _ us hl => match us, hl with | [_, _], _ => rfl
  have F2 := fun_mk (st := s__law_pick) l2 c2 k2
  have b2 := F2.binds (ps := ["_law_deck_here", "_law_some"]) fun _ _ _ _ _ _ us hl => match us, hl with | [_, _], _ => rfl
  have F3 := fun_mk (st := s__law_word) l3 c3 k3
  have b3 := F3.binds (ps := ["_law_deck_here", "_law_signs", "_law_top"]) fun _ _ _ _ _ _ us hl => match us, hl with | [_, _, _], _ => rfl
  have F4 := fun_mk (st := s__law_plan) l4 c4 k4
  have b4 := F4.binds (ps := ["_law_deck_here", "_law_top", "_law_many", "_law_long"]) fun _ _ _ _ _ _ us hl => match us, hl with | [_, _, _, _], _ => rfl
  have F5 := fun_mk (st := s_is_integer) l5 c5 k5
  have b5 := F5.binds (ps := ["thing"]) fun _ _ _ _ _ _ us hl => match us, hl with | [_], _ => rfl
  have F6 := fun_mk (st := s_is_index) l6 c6 k6
  have b6 := F6.binds (ps := ["many", "thing"]) fun _ _ _ _ _ _ us hl => match us, hl with | [_, _], _ => rfl
  have F7 := fun_mk (st := s_are_states) l7 c7 k7
  have b7 := F7.binds (ps := ["many", "thing"]) fun _ _ _ _ _ _ us hl => match us, hl with | [_, _], _ => rfl
  have F8 := fun_mk (st := s_is_text) l8 c8 k8
  have b8 := F8.binds (ps := ["thing"]) fun _ _ _ _ _ _ us hl => match us, hl with | [_], _ => rfl
  have F9 := fun_mk (st := s_is_move) l9 c9 k9
  have b9 := F9.binds (ps := ["size", "thing"]) fun _ _ _ _ _ _ us hl => match us, hl with | [_, _], _ => rfl
  have F10 := fun_mk (st := s_Pacer___init__) l10 c10 k10
  have b10 := F10.binds (ps := ["self", "size", "begins", "moves", "ends"]) fun _ _ _ _ _ _ us hl => match us, hl with | [_, _, _, _, _], _ => rfl
  have F11 := fun_mk (st := s__law_code) l11 c11 k11
  have b11 := F11.binds (ps := ["_law_w"]) fun _ _ _ _ _ _ us hl => match us, hl with | [_], _ => rfl
  have F12 := fun_mk (st := s__law_ways) l12 c12 k12
  have b12 := F12.binds (ps := ["_law_w", "_law_top"]) fun _ _ _ _ _ _ us hl => match us, hl with | [_, _], _ => rfl
  have F13 := fun_mk (st := s_Pacer_spelled) l13 c13 k13
  have b13 := F13.binds (ps := ["self", "moves"]) fun _ _ _ _ _ _ us hl => match us, hl with | [_, _], _ => rfl
  have F14 := fun_mk (st := s_Pacer_further_places) l14 c14 k14
  have b14 := F14.binds (ps := ["self", "here", "left", "right"]) fun _ _ _ _ _ _ us hl => match us, hl with | [_, _, _, _], _ => rfl
  have F15 := fun_mk (st := s_Pacer_tells) l15 c15 k15
  have b15 := F15.binds (ps := ["self", "left", "right"]) fun _ _ _ _ _ _ us hl => match us, hl with | [_, _, _], _ => rfl
  have F16 := fun_mk (st := s__law_texts) l16 c16 k16
  have b16 := F16.binds (ps := ["_law_signs", "_law_top"]) fun _ _ _ _ _ _ us hl => match us, hl with | [_, _], _ => rfl
  have F17 := fun_mk (st := s_law) l17 c17 k17
  have b17 := F17.binds (ps := ["_law_script"]) fun _ _ _ _ _ _ us hl => match us, hl with | [_], _ => rfl
  have T : Top w K mg := ⟨rfl,
    rfl,
    ⟨⟨f0, _, F0, PySem.W.mg_of X G a0, b0⟩⟩,
    ⟨⟨f1, _, F1, PySem.W.mg_of X G a1, b1⟩⟩,
    ⟨⟨f2, _, F2, PySem.W.mg_of X G a2, b2⟩⟩,
    ⟨⟨f3, _, F3, PySem.W.mg_of X G a3, b3⟩⟩,
    ⟨⟨f4, _, F4, PySem.W.mg_of X G a4, b4⟩⟩,
    ⟨⟨f5, _, F5, PySem.W.mg_of X G a5, b5⟩⟩,
    ⟨⟨f6, _, F6, PySem.W.mg_of X G a6, b6⟩⟩,
    ⟨⟨f7, _, F7, PySem.W.mg_of X G a7, b7⟩⟩,
    ⟨⟨f8, _, F8, PySem.W.mg_of X G a8, b8⟩⟩,
    ⟨⟨f9, _, F9, PySem.W.mg_of X G a9, b9⟩⟩,
    ⟨⟨f10, _, F10, ⟨mkC, a10, i10, kpC⟩, b10⟩⟩,
    ⟨⟨f11, _, F11, PySem.W.mg_of X G a11, b11⟩⟩,
    ⟨⟨f12, _, F12, PySem.W.mg_of X G a12, b12⟩⟩,
    ⟨⟨f13, _, F13, ⟨a13, i13, k13⟩, b13⟩⟩,
    ⟨⟨f14, _, F14, ⟨a14, i14, k14⟩, b14⟩⟩,
    ⟨⟨f15, _, F15, ⟨a15, i15, k15⟩, b15⟩⟩,
    ⟨⟨f16, _, F16, PySem.W.mg_of X G a16, b16⟩⟩,
    ⟨⟨f17, _, F17, PySem.W.mg_of X G a17, b17⟩⟩,
    ⟨⟨pgC, hdC, poC, saC⟩, PySem.W.mg_of X G aC, fun f hf => by simp only [List.mem_cons, List.not_mem_nil, or_false] at hf; rcases hf with rfl | rfl | rfl | rfl; exact fC0; exact fC1; exact fC2; exact fC3⟩,
    ⟨_, PySem.W.mg_of X G y0⟩,
    ⟨_, PySem.W.mg_of X G y1⟩,
    PySem.W.mg_none_of X G z0,
    PySem.W.mg_none_of X G z1,
    PySem.W.mg_none_of X G z2,
    PySem.W.mg_none_of X G z3,
    PySem.W.mg_none_of X G z4,
    PySem.W.mg_none_of X G z5,
    PySem.W.mg_none_of X G z6,
    PySem.W.mg_none_of X G z7,
    PySem.W.mg_none_of X G z8,
    PySem.W.mg_none_of X G z9,
    PySem.W.mg_none_of X G z10,
    PySem.W.mg_none_of X G z11,
    PySem.W.mg_none_of X G z12⟩
  have e := hfa.symm.trans (PySem.W.mg_of X G a17)
  cases e
  refine ⟨PySem.W.fnOf "law" "law" (defArgs s_law) (defBody s_law) (defScope s_law) .none kV17 dc17 pm17 an17 cd17 ct17, fun s v => .of_eq rfl, fun base _ _ => ?_⟩
  · obtain ⟨f, fd, F, hm, hb, g⟩ := (go_law (P := l.prog) (w := w) (base := base) T).ex
    have e2 := hm.symm.trans (PySem.W.mg_of X G a17)
    cases e2
    obtain ⟨oc, od, kV, doc, pm, an, cdv, ct, osl, rfl, lk, _⟩ := F.ex
    rw [l17] at lk
    cases lk
    exact g
end VL
open PySem PySem.W PyProof.Rows
set_option maxHeartbeats 0 in
theorem PySem.Challenge.cw_evenlead_k10_pacers_beside_all_short_way_holds : PySem.Challenge.rw_evenlead_k10_pacers_beside_all_short_way.Holds := by
  w_on; o_law; k_head; (case hw => w_witness2)
  k_fill
  refine VL.walk_g (l := PySem.Challenge.rw_evenlead_k10_pacers_beside_all_short_way) (k := 7) (x := "_law_script") rfl rfl ⟨rfl, by decide, by decide⟩ rfl (fun w h Y => by first | exact PySem.W.km_in_of Y | exact PySem.W.kIn_of Y) ?F
  case F =>
    intro w mg fa h KX G hmg
    refine' VL.all_mk KX G hmg ?aC ?pgC ?hdC ?poC ?saC ?mkC ?kpC ?fC0 ?fC1 ?fC2 ?fC3 ?a0 ?l0 ?c0 ?k0 ?a1 ?l1 ?c1 ?k1 ?a2 ?l2 ?c2 ?k2 ?a3 ?l3 ?c3 ?k3 ?a4 ?l4 ?c4 ?k4 ?a5 ?l5 ?c5 ?k5 ?a6 ?l6 ?c6 ?k6 ?a7 ?l7 ?c7 ?k7 ?a8 ?l8 ?c8 ?k8 ?a9 ?l9 ?c9 ?k9 ?a10 ?i10 ?l10 ?c10 ?k10 ?a11 ?l11 ?c11 ?k11 ?a12 ?l12 ?c12 ?k12 ?a13 ?i13 ?l13 ?c13 ?k13 ?a14 ?i14 ?l14 ?c14 ?k14 ?a15 ?i15 ?l15 ?c15 ?k15 ?a16 ?l16 ?c16 ?k16 ?a17 ?l17 ?c17 ?k17 ?y0 ?y1 ?z0 ?z1 ?z2 ?z3 ?z4 ?z5 ?z6 ?z7 ?z8 ?z9 ?z10 ?z11 ?z12
    (case aC => k_is); (case pgC => k_is); (case hdC => k_is); (case poC => k_is); (case saC => k_is); (case mkC => k_is); (case kpC => k_is); (case fC0 => k_is); (case fC1 => k_is); (case fC2 => k_is); (case fC3 => k_is); (case a0 => k_is); (case l0 => k_is); (case c0 => k_is); (case k0 => k_is); (case a1 => k_is); (case l1 => k_is); (case c1 => k_is); (case k1 => k_is); (case a2 => k_is); (case l2 => k_is); (case c2 => k_is); (case k2 => k_is); (case a3 => k_is); (case l3 => k_is); (case c3 => k_is); (case k3 => k_is); (case a4 => k_is); (case l4 => k_is); (case c4 => k_is); (case k4 => k_is); (case a5 => k_is); (case l5 => k_is); (case c5 => k_is); (case k5 => k_is); (case a6 => k_is); (case l6 => k_is); (case c6 => k_is); (case k6 => k_is); (case a7 => k_is); (case l7 => k_is); (case c7 => k_is); (case k7 => k_is); (case a8 => k_is); (case l8 => k_is); (case c8 => k_is); (case k8 => k_is); (case a9 => k_is); (case l9 => k_is); (case c9 => k_is); (case k9 => k_is); (case a10 => k_is); (case i10 => k_is); (case l10 => k_is); (case c10 => k_is); (case k10 => k_is); (case a11 => k_is); (case l11 => k_is); (case c11 => k_is); (case k11 => k_is); (case a12 => k_is); (case l12 => k_is); (case c12 => k_is); (case k12 => k_is); (case a13 => k_is); (case i13 => k_is); (case l13 => k_is); (case c13 => k_is); (case k13 => k_is); (case a14 => k_is); (case i14 => k_is); (case l14 => k_is); (case c14 => k_is); (case k14 => k_is); (case a15 => k_is); (case i15 => k_is); (case l15 => k_is); (case c15 => k_is); (case k15 => k_is); (case a16 => k_is); (case l16 => k_is); (case c16 => k_is); (case k16 => k_is); (case a17 => k_is); (case l17 => k_is); (case c17 => k_is); (case k17 => k_is); (case y0 => k_is); (case y1 => k_is); (case z0 => k_is); (case z1 => k_is); (case z2 => k_is); (case z3 => k_is); (case z4 => k_is); (case z5 => k_is); (case z6 => k_is); (case z7 => k_is); (case z8 => k_is); (case z9 => k_is); (case z10 => k_is); (case z11 => k_is); (case z12 => k_is)
