import PyProof.Rows.All
import Wide.All
import OpenK.AllK
import Wide.FinOn
import HandS.ForMost
import HandS.ForExc
import HandS.Deep
import HandS.Conv
import HandS.TupLe
import HandS.TupAny
import HandS.TupMul
import HandS.Flow
import HandS.TupLen
import HandS.Style
import HandS.IsInst
import HandS.ExcIs
import KE.KEqSeq
import HandS.More
import HandS.Dict
import HandS.HotCalls
import HandS.Text
import HandS.Replace
import HandS.SetFor
import HandS.Strs
import HandS.TupSets
import HandS.Iter
import KE.DatumOrd
import KE.KDictKeyed
import KE.KDictDisplayH
import KE.KDictOf
import PySem.Challenge.RW_backrule_k11_whole_turned_back
set_option Elab.async false
set_option linter.all false
set_option maxRecDepth 100000
set_option maxHeartbeats 4000000
/-! Dt: a walk on plain data. Slots hold data (PyData) that stands in a part S of the heap that nothing changes any more, or an own list or dict that the def alone may change. -/
namespace Dt
open PySem PySem.Spec PyProof.Rows L2

def Ex (H H' : Hp) : Prop := ∀ a o, H a = some o → H' a = some o
theorem Ex.refl (H : Hp) : Ex H H := fun _ _ h => h
theorem Ex.trans {H H1 H2 : Hp} (a : Ex H H1) (b : Ex H1 H2) : Ex H H2 := fun x o h => b x o (a x o h)
theorem Ex.new {H : Hp} {p : Addr} {o : HO} (h : H p = none) : Ex H (upd H p o) := fun a u e => by
  rw [upd_ne (ne_of_none e h)]
  exact e
theorem Ex.back {H H' : Hp} {p : Addr} (e : Ex H H') (h : H' p = none) : H p = none := by
  cases h1 : H p with
  | none => rfl
  | some o => rw [e p o h1] at h; cases h
theorem Ex.mut {H H' : Hp} {p : Addr} {o : HO} (e : Ex H H') (h : H p = none) : Ex H (upd H' p o) := fun a u ha => by
  rw [upd_ne (ne_of_none ha h)]
  exact e a u ha
/-- what reading leans on -/
structure Le (H H' : Hp) : Prop where
  lst : ∀ a xs, H a = some (.lst xs) → H' a = some (.lst xs)
  tup : ∀ a xs, H a = some (.tup xs) → H' a = some (.tup xs)
  scr : ∀ a o xs, H a = some (.frz o (.lst xs)) → H' a = some (.frz o (.lst xs))
  rd : ∀ a u, Rd H a u → Rd H' a u
theorem Ex.le {H H' : Hp} (e : Ex H H') : Le H H' := ⟨fun a xs h => e a _ h, fun a xs h => e a _ h, fun a o xs h => e a _ h, fun a u h => by
  rcases h with h | ⟨o, h⟩
  · exact .inl (e a _ h)
  · exact .inr ⟨o, e a _ h⟩⟩

def keyD : Key → PyData
  | .inl i => .int i
  | .inr x => .str x

/-- a list of the module's own -/
def OwnL (κ : PySem.W.Frag) (a : Addr) (xs : List V) : Prop := ∃ (o : Obj) (its : Array Value) (n : Nat), κ.lookup a = some o ∧ o.cls = .type "list" ∧ o.dict = none ∧ o.data = .seq its n ∧ its.size ≤ sizeLine ∧ Vals xs its.toList
mutual
/-- the value v is the data d, read off H -/
inductive Rp (κ : PySem.W.Frag) (H : Hp) : V → PyData → Prop
  | non : Rp κ H .non .none
  | bl (b : Bool) : Rp κ H (.bl b) (.bool b)
  | int (i : Int) : Rp κ H (.int i) (.int i)
  | str (x : Str) : Rp κ H (.str x) (.str x)
  | lst {a : Addr} {xs : List V} {ds : List PyData} : H a = some (.lst xs) → RpA κ H xs ds → Rp κ H (.ref a) (.list ds)
  /-- the script, known to its object -/
  | scr {a : Addr} {o : Obj} {xs : List V} {ds : List PyData} : H a = some (.frz o (.lst xs)) → RpA κ H xs ds → Rp κ H (.ref a) (.dict [(.none, .list ds)])
  /-- .. or one of the module's own objects -/
  | own {a : Addr} {xs : List V} {ds : List PyData} : OwnL κ a xs → RpA κ H xs ds → Rp κ H (.ref a) (.dict [(.none, .list ds)])
  | tup {a : Addr} {xs : List V} {ds : List PyData} : H a = some (.tup xs) → RpA κ H xs ds → Rp κ H (.ref a) (.tuple ds)
  | dT {a : Addr} {kvs : List (List Key × V)} {ds : List (PyData × PyData)} : Rd H a (.dT kvs) → RpT κ H kvs ds → Rp κ H (.ref a) (.dict ds)
inductive RpA (κ : PySem.W.Frag) (H : Hp) : List V → List PyData → Prop
  | nil : RpA κ H [] []
  | cons {v : V} {vs : List V} {d : PyData} {ds : List PyData} : Rp κ H v d → RpA κ H vs ds → RpA κ H (v :: vs) (d :: ds)
inductive RpT (κ : PySem.W.Frag) (H : Hp) : List (List Key × V) → List (PyData × PyData) → Prop
  | nil : RpT κ H [] []
  | cons {k : List Key} {v : V} {d : PyData} {vs : List (List Key × V)} {ds : List (PyData × PyData)} : Rp κ H v d → RpT κ H vs ds → RpT κ H ((k, v) :: vs) ((.tuple (k.map keyD), d) :: ds)
end
variable {κ : PySem.W.Frag}

section
variable {H H' : Hp}
mutual
theorem Rp.le (e : Le H H') {v : V} {d : PyData} (h : Rp κ H v d) : Rp κ H' v d := match h with
  | .non => .non
  | .bl b => .bl b
  | .int i => .int i
  | .str x => .str x
  | .lst h q => .lst (e.lst _ _ h) (RpA.le e q)
  | .scr h q => .scr (e.scr _ _ _ h) (RpA.le e q)
  | .own h q => .own h (RpA.le e q)
  | .tup h q => .tup (e.tup _ _ h) (RpA.le e q)
  | .dT h q => .dT (e.rd _ _ h) (RpT.le e q)
termination_by structural h
theorem RpA.le (e : Le H H') {vs : List V} {ds : List PyData} (h : RpA κ H vs ds) : RpA κ H' vs ds := match h with
  | .nil => .nil
  | .cons h q => .cons (Rp.le e h) (RpA.le e q)
termination_by structural h
theorem RpT.le (e : Le H H') {vs : List (List Key × V)} {ds : List (PyData × PyData)} (h : RpT κ H vs ds) : RpT κ H' vs ds := match h with
  | .nil => .nil
  | .cons h q => .cons (Rp.le e h) (RpT.le e q)
termination_by structural h
end
theorem Rp.mono (e : Ex H H') {d : PyData} {v : V} (h : Rp κ H v d) : Rp κ H' v d := h.le e.le
theorem RpA.mono (e : Ex H H') {d : List PyData} {v : List V} (h : RpA κ H v d) : RpA κ H' v d := h.le e.le
theorem RpT.mono (e : Ex H H') {d : List (PyData × PyData)} {v : List (List Key × V)} (h : RpT κ H v d) : RpT κ H' v d := h.le e.le

mutual
theorem Rp.dp {v : V} {d : PyData} (h : Rp κ H v d) (c : d.canLay0 = true) : Dp κ H v d := match h with
  | .non => .non
  | .bl b => .bl b
  | .int i => .int i
  | .str x => .str x
  | .lst h q => .lst (.inl (.inl h)) (RpA.dp q c)
  | .tup h q => .tup (.inl (.inl h)) (RpA.dp q c)
  | .scr h q => nomatch c
  | .own h q => nomatch c
  | .dT h q => nomatch c
termination_by structural h
theorem RpA.dp {vs : List V} {ds : List PyData} (h : RpA κ H vs ds) (c : PyData.canLayAll0 ds = true) : DpAll κ H vs ds := match h with
  | .nil => .nil
  | .cons (d := d) (ds := ds) h q =>
    have c' : d.canLay0 = true ∧ PyData.canLayAll0 ds = true := (Bool.and_eq_true _ _).mp c
    .cons (Rp.dp h c'.1) (RpA.dp q c'.2)
termination_by structural h
end
theorem RpA.length : ∀ {ds : List PyData} {vs : List V}, RpA κ H vs ds → vs.length = ds.length
  | [], _, .nil => rfl
  | _ :: ds, _, .cons _ q => by simp [RpA.length q]
theorem RpA.get : ∀ {ds : List PyData} {vs : List V} {i : Nat} {d : PyData}, RpA κ H vs ds → ds[i]? = some d → ∃ v, vs[i]? = some v ∧ Rp κ H v d
  | [], _, _, _, .nil, e => by simp at e
  | _ :: ds, _, 0, _, .cons h q, e => ⟨_, rfl, by simp at e; subst e; exact h⟩
  | _ :: ds, _, i + 1, d, .cons h q, e => by
    obtain ⟨v, h1, h2⟩ := RpA.get (i := i) q (by simpa using e)
    exact ⟨v, by simpa using h1, h2⟩
theorem RpA.getv : ∀ {ds : List PyData} {vs : List V} {i : Nat} {v : V}, RpA κ H vs ds → vs[i]? = some v → ∃ d, ds[i]? = some d ∧ Rp κ H v d
  | [], _, _, _, .nil, e => by simp at e
  | _ :: ds, _, 0, _, .cons h q, e => ⟨_, rfl, by simp at e; subst e; exact h⟩
  | _ :: ds, _, i + 1, d, .cons h q, e => by
    obtain ⟨v, h1, h2⟩ := RpA.getv (i := i) q (by simpa using e)
    exact ⟨v, by simpa using h1, h2⟩
theorem RpA.append : ∀ {ds es : List PyData} {vs ws : List V}, RpA κ H vs ds → RpA κ H ws es → RpA κ H (vs ++ ws) (ds ++ es)
  | [], _, _, _, .nil, r => r
  | _ :: ds, _, _, _, .cons h q, r => .cons h (RpA.append q r)
theorem RpA.one {v : V} {d : PyData} (h : Rp κ H v d) : RpA κ H [v] [d] := .cons h .nil
theorem RpA.take : ∀ {ds : List PyData} {vs : List V} (n : Nat), RpA κ H vs ds → RpA κ H (vs.take n) (ds.take n)
  | _, _, 0, _ => by simp; exact .nil
  | [], _, n + 1, .nil => .nil
  | _ :: ds, _, n + 1, .cons h q => .cons h (RpA.take n q)
theorem RpA.drop : ∀ {ds : List PyData} {vs : List V} (n : Nat), RpA κ H vs ds → RpA κ H (vs.drop n) (ds.drop n)
  | _, _, 0, q => q
  | [], _, n + 1, .nil => .nil
  | _ :: ds, _, n + 1, .cons h q => RpA.drop n q
theorem RpA.set : ∀ {ds : List PyData} {vs : List V} {v : V} {d : PyData} (n : Nat), RpA κ H vs ds → Rp κ H v d → RpA κ H (vs.set n v) (ds.set n d)
  | [], _, _, _, _, .nil, _ => .nil
  | _ :: ds, _, _, _, 0, .cons h q, r => .cons r q
  | _ :: ds, _, _, _, n + 1, .cons h q, r => .cons h (RpA.set n q r)
theorem RpA.reverse : ∀ {ds : List PyData} {vs : List V}, RpA κ H vs ds → RpA κ H vs.reverse ds.reverse
  | [], _, .nil => .nil
  | _ :: ds, _, .cons h q => by
    rw [List.reverse_cons, List.reverse_cons]
    exact (RpA.reverse q).append (.one h)
end
/-- data that needs no heap -/
def scalD : PyData → Bool
  | .none | .bool _ | .int _ | .str _ => true
  | _ => false
theorem Rp.scal {H S : Hp} {v : V} {d : PyData} (h : Rp κ H v d) (hs : scalD d = true) : Rp κ S v d := by
  cases h with
  | non => exact .non
  | bl b => exact .bl b
  | int i => exact .int i
  | str x => exact .str x
  | lst _ _ => cases hs
  | scr _ _ => cases hs
  | own _ _ => cases hs
  | tup _ _ => cases hs
  | dT _ _ => cases hs
theorem RpA.scal {H S : Hp} : ∀ {ds : List PyData} {vs : List V}, RpA κ H vs ds → (∀ d ∈ ds, scalD d = true) → RpA κ S vs ds
  | [], _, .nil, _ => .nil
  | d :: ds, _, .cons h q, c => .cons (h.scal (c d List.mem_cons_self)) (RpA.scal q fun x hx => c x (List.mem_cons_of_mem _ hx))

/-! ### slots -/
inductive Sl where
  /-- data that stands in S -/
  | d (x : PyData)
  /-- an own list; an own dict of tuples (nw: what it holds is new, too); an own dict of numbers, texts -/
  | l (xs : List PyData)
  | t (nw : Bool) (kvs : List (List Key × PyData))
  | k (kvs : List (Key × PyData))
  /-- the exception that a suite holds -/
  | x (a : Addr)
  /-- an own list, at a, of pairs of own lists: fp tells where each tuple and its two lists stand -/
  | pp (a : Addr) (fp : List (Addr × Addr × Addr)) (ps : List (List PyData × List PyData))
  /-- an own pair of own lists -/
  | p2 (e : Addr × Addr × Addr) (x : List PyData × List PyData)
/-- an own slot's object that may change stands at p -/
def Sl.has : Sl → V → Addr → Prop
  | .l _, v, p => v = .ref p
  | .t _ _, v, p => v = .ref p
  | .k _, v, p => v = .ref p
  | .pp a fp _, _, p => p = a ∨ ∃ e ∈ fp, p = e.2.1 ∨ p = e.2.2
  | .p2 e _, _, p => p = e.2.1 ∨ p = e.2.2
  | .d _, _, _ => False
  | .x _, _, _ => False
abbrev Rho := List (Option Sl)
/-- at a nothing stood, or a tuple, which never changes -/
def NT (H : Hp) (a : Addr) : Prop := H a = none ∨ ∃ xs, H a = some (.tup xs)
theorem NT.back {H H' : Hp} {a : Addr} (e : Ex H H') (h : NT H' a) : NT H a := by
  rcases h with h | ⟨xs, h⟩
  · exact .inl (e.back h)
  · cases q : H a with
    | none => exact .inl q
    | some u =>
      have := e _ _ q
      rw [h] at this
      cases this
      exact .inr ⟨xs, q⟩
structure Base (κ : PySem.W.Frag) where
  S : Hp
  H : Hp
def dOfT (kvs : List (List Key × PyData)) : List (PyData × PyData) := kvs.map fun p => (.tuple (p.1.map keyD), p.2)
def dOfK (kvs : List (Key × PyData)) : List (PyData × PyData) := kvs.map fun p => (keyD p.1, p.2)
/-- dict entries, keys alike -/
def PT' (κ : PySem.W.Frag) (S : Hp) {τ : Type} (ws : List (τ × V)) (kvs : List (τ × PyData)) : Prop := Paired (fun (p : τ × V) (q : τ × PyData) => p.1 = q.1 ∧ Rp κ S p.2 q.2) ws kvs
/-- an own list -/
def OwnAt (B : Base κ) (S H : Hp) (p : Addr) (xs : List PyData) : Prop := ∃ vs, B.H p = none ∧ S p = none ∧ H p = some (.lst vs) ∧ RpA κ S vs xs
/-- an own pair of own lists -/
def OwnP (B : Base κ) (S H : Hp) (e : Addr × Addr × Addr) (x : List PyData × List PyData) : Prop := H e.1 = some (.tup [.ref e.2.1, .ref e.2.2]) ∧ OwnAt B S H e.2.1 x.1 ∧ OwnAt B S H e.2.2 x.2
def fpL (fp : List (Addr × Addr × Addr)) : List Addr := fp.flatMap fun e => [e.2.1, e.2.2]
/-- the part of S that H had not -/
def nwP (H S : Hp) : Hp := fun a => match H a with
  | none => S a
  | some _ => none
theorem nwP_some {H S : Hp} {a : Addr} {o : HO} (h : nwP H S a = some o) : H a = none ∧ S a = some o := by
  unfold nwP at h
  cases q : H a with
  | none => rw [q] at h; exact ⟨rfl, h⟩
  | some u => rw [q] at h; cases h
theorem nwP_mk {H S : Hp} {a : Addr} {o : HO} (h1 : H a = none) (h2 : S a = some o) : nwP H S a = some o := by
  unfold nwP
  rw [h1]
  exact h2
theorem nwP_le {H S : Hp} : Ex (nwP H S) S := fun a o h => (nwP_some h).2
theorem nwP_mono {H S S' : Hp} (e : Ex S S') : Ex (nwP H S) (nwP H S') := fun a o h => nwP_mk (nwP_some h).1 (e _ _ (nwP_some h).2)
theorem nwP_base {H H' S : Hp} (e : Ex H H') : Ex (nwP H' S) (nwP H S) := fun a o h => nwP_mk (e.back (nwP_some h).1) (nwP_some h).2
def vS (nw : Bool) (H S : Hp) : Hp := cond nw (nwP H S) S
theorem vS_mono {nw : Bool} {H S S' : Hp} (e : Ex S S') : Ex (vS nw H S) (vS nw H S') := by
  cases nw
  · exact e
  · exact nwP_mono e
theorem vS_le {nw : Bool} {H S : Hp} : Ex (vS nw H S) S := by
  cases nw
  · exact Ex.refl _
  · exact nwP_le
def SlR (B : Base κ) (S H : Hp) (v : V) : Sl → Prop
  | .d x => Rp κ S v x
  | .l xs => ∃ p vs, v = .ref p ∧ B.H p = none ∧ S p = none ∧ H p = some (.lst vs) ∧ RpA κ S vs xs
  | .t nw kvs => ∃ p ws, v = .ref p ∧ B.H p = none ∧ S p = none ∧ H p = some (.dT ws) ∧ PT' κ (vS nw B.H S) ws kvs
  | .k kvs => ∃ p ws, v = .ref p ∧ B.H p = none ∧ S p = none ∧ H p = some (.dK ws) ∧ PT' κ S ws kvs
  | .x a => v = .ref a
  | .pp a fp ps => v = .ref a ∧ B.H a = none ∧ S a = none ∧ H a = some (.lst (fp.map fun e => .ref e.1)) ∧ (a :: fpL fp).Nodup ∧ Paired (OwnP B S H) fp ps
  | .p2 e x => v = .ref e.1 ∧ OwnP B S H e x ∧ e.2.1 ≠ e.2.2
structure Rel (B : Base κ) (ρ : Rho) (σ : L2.St) (H S : Hp) : Prop where
  exH : Ex B.H H
  exS : Ex B.S S
  sub : Ex S H
  nw : ∀ a o, S a = some o → B.S a = none → NT B.H a
  len : ρ.length = σ.length
  sl : ∀ (i : Nat) s, ρ[i]? = some (some s) → ∃ v, σ[i]? = some (some v) ∧ SlR B S H v s
  sep : ∀ (i j : Nat) s t v w p, ρ[i]? = some (some s) → ρ[j]? = some (some t) → σ[i]? = some (some v) → σ[j]? = some (some w) → s.has v p → t.has w p → i = j
theorem PT'.mono {S S' : Hp} {τ : Type} {ws : List (τ × V)} {kvs : List (τ × PyData)} (e : Ex S S') (h : PT' κ S ws kvs) : PT' κ S' ws kvs :=
  Paired.mapP h fun _ _ q => ⟨q.1, q.2.mono e⟩
theorem OwnAt.mono {B : Base κ} {S S' H H' : Hp} {p : Addr} {xs : List PyData} (h : OwnAt B S H p xs) (e : Ex S S') (eH : Ex H H') (hn : ∀ p, S p = none → ¬ NT H p → S' p = none) : OwnAt B S' H' p xs := by
  obtain ⟨vs, e2, e3, e4, e5⟩ := h
  exact ⟨vs, e2, hn p e3 (by rintro (z | ⟨_, z⟩) <;> rw [e4] at z <;> cases z), eH _ _ e4, e5.mono e⟩
theorem SlR.mono {B : Base κ} {S S' H H' : Hp} {v : V} {s : Sl} (h : SlR B S H v s) (e : Ex S S') (eH : Ex H H') (hn : ∀ p, S p = none → ¬ NT H p → S' p = none) : SlR B S' H' v s := by
  cases s with
  | d x => exact Rp.mono e h
  | x a => exact h
  | l xs =>
    obtain ⟨p, vs, e1, e2, e3, e4, e5⟩ := h
    exact ⟨p, vs, e1, e2, hn p e3 (by rintro (z | ⟨_, z⟩) <;> rw [e4] at z <;> cases z), eH _ _ e4, e5.mono e⟩
  | t nw xs =>
    obtain ⟨p, vs, e1, e2, e3, e4, e5⟩ := h
    exact ⟨p, vs, e1, e2, hn p e3 (by rintro (z | ⟨_, z⟩) <;> rw [e4] at z <;> cases z), eH _ _ e4, e5.mono (vS_mono e)⟩
  | k xs =>
    obtain ⟨p, vs, e1, e2, e3, e4, e5⟩ := h
    exact ⟨p, vs, e1, e2, hn p e3 (by rintro (z | ⟨_, z⟩) <;> rw [e4] at z <;> cases z), eH _ _ e4, e5.mono e⟩
  | pp a fp ps =>
    obtain ⟨e1, e2, e3, e4, e5, e6⟩ := h
    exact ⟨e1, e2, hn a e3 (by rintro (z | ⟨_, z⟩) <;> rw [e4] at z <;> cases z), eH _ _ e4, e5, Paired.mapP e6 fun _ _ q => ⟨eH _ _ q.1, q.2.1.mono e eH hn, q.2.2.mono e eH hn⟩⟩
  | p2 e2 x =>
    obtain ⟨e1, q, ne⟩ := h
    exact ⟨e1, ⟨eH _ _ q.1, q.2.1.mono e eH hn, q.2.2.mono e eH hn⟩, ne⟩
section
variable {B : Base κ} {ρ : Rho} {σ : L2.St} {H H' S S' : Hp}
/-- the heap grew, S with it by new things alone -/
theorem Rel.grow (R : Rel B ρ σ H S) (eH : Ex H H') (eS : Ex S S') (sub : Ex S' H') (hn : ∀ a o, S' a = some o → S a = none → NT H a) : Rel B ρ σ H' S' where
  exH := R.exH.trans eH
  exS := R.exS.trans eS
  sub := sub
  nw := fun a o h hb => by
    cases q : S a with
    | none => exact NT.back R.exH (hn a o h q)
    | some u => exact R.nw a u q hb
  len := R.len
  sl := fun i s h => by
    obtain ⟨v, h1, h2⟩ := R.sl i s h
    refine ⟨v, h1, h2.mono eS eH fun p e1 e2 => ?_⟩
    cases q : S' p with
    | none => rfl
    | some u => exact absurd (hn p u q e1) e2
  sep := R.sep
theorem Rel.heap (R : Rel B ρ σ H S) (eH : Ex H H') : Rel B ρ σ H' S := R.grow eH (Ex.refl _) (R.sub.trans eH) fun a o h h' => by rw [h] at h'; cases h'
/-- S takes in a new object -/
theorem Rel.keep (R : Rel B ρ σ H S) (eH : Ex H H') {p : Addr} {o : HO} (hp : H p = none) (h : H' p = some o) : Rel B ρ σ H' (upd S p o) ∧ Ex S (upd S p o) := by
  have hs : S p = none := R.sub.back hp
  refine ⟨R.grow eH (Ex.new hs) (fun a u e => ?_) fun a u e e' => ?_, Ex.new hs⟩
  · by_cases ha : a = p
    · subst ha; rw [upd_same] at e; cases e; exact h
    · rw [upd_ne ha] at e; exact eH _ _ (R.sub _ _ e)
  · by_cases ha : a = p
    · subst ha; exact .inl hp
    · rw [upd_ne ha, e'] at e; cases e
/-- another base, within -/
theorem Rel.rebase (R : Rel B ρ σ H S) : Rel (κ := κ) ⟨S, B.H⟩ ρ σ H S where
  exH := R.exH
  exS := Ex.refl _
  sub := R.sub
  nw := fun a o h h' => by
    have h2 : S a = none := h'
    rw [h] at h2; cases h2
  len := R.len
  sl := fun i s h => by
    obtain ⟨v, h1, h2⟩ := R.sl i s h
    refine ⟨v, h1, ?_⟩
    cases s <;> exact h2
  sep := R.sep
theorem Rel.unbase {S0 : Hp} (R : Rel (κ := κ) ⟨S0, B.H⟩ ρ σ H S) (e : Ex B.S S0) (hn : ∀ a o, S0 a = some o → B.S a = none → NT B.H a) : Rel B ρ σ H S where
  exH := R.exH
  exS := e.trans R.exS
  sub := R.sub
  nw := fun a o h h' => by
    cases q : S0 a with
    | none => exact R.nw a o h q
    | some u => exact hn a u q h'
  len := R.len
  sl := fun i s h => by
    obtain ⟨v, h1, h2⟩ := R.sl i s h
    refine ⟨v, h1, ?_⟩
    cases s <;> exact h2
  sep := R.sep
theorem Rel.get {i : Nat} {x : PyData} (R : Rel B ρ σ H S) (h : ρ[i]? = some (some (.d x))) : ∃ v, σ[i]? = some (some v) ∧ Rp κ S v x := R.sl i _ h
/-- a slot forgotten -/
theorem Rel.forget (R : Rel B ρ σ H S) (i : Nat) : Rel B (ρ.set i none) σ H S where
  exH := R.exH
  exS := R.exS
  sub := R.sub
  nw := R.nw
  len := by rw [List.length_set]; exact R.len
  sl := fun j s h => by
    by_cases hj : i = j
    · subst hj
      rw [List.getElem?_set] at h
      simp at h
    · rw [List.getElem?_set_ne hj] at h
      exact R.sl j s h
  sep := fun a b s t v w p h1 h2 h3 h4 h5 h6 => by
    have f : ∀ {a : Nat} {s : Sl}, (ρ.set i none)[a]? = some (some s) → ρ[a]? = some (some s) := fun {a s} h => by
      by_cases hj : i = a
      · subst hj
        rw [List.getElem?_set] at h
        simp at h
      · rw [List.getElem?_set_ne hj] at h; exact h
    exact R.sep a b s t v w p (f h1) (f h2) h3 h4 h5 h6
/-- a slot is written: data -/
theorem Rel.setD (R : Rel B ρ σ H S) (i : Nat) {v : V} {x : PyData} (h : Rp κ S v x) : Rel B (ρ.set i (some (.d x))) (σ.set i (some v)) H S where
  exH := R.exH
  exS := R.exS
  sub := R.sub
  nw := R.nw
  len := by rw [List.length_set, List.length_set]; exact R.len
  sl := fun j s e => by
    by_cases hj : i = j
    · subst hj
      rw [List.getElem?_set] at e
      have hl := R.len
      by_cases hi : i < ρ.length
      · simp [hi] at e
        subst e
        exact ⟨v, by rw [List.getElem?_set]; simp [show i < σ.length by omega], h⟩
      · simp [hi] at e
    · rw [List.getElem?_set_ne hj] at e
      rw [List.getElem?_set_ne hj]
      exact R.sl j s e
  sep := fun a b s t u w p h1 h2 h3 h4 h5 h6 => by
    have f : ∀ {a : Nat} {s : Sl} {u : V}, (ρ.set i (some (.d x)))[a]? = some (some s) → s.has u p → i ≠ a ∧ ρ[a]? = some (some s) := fun {a s u} h ho => by
      by_cases hj : i = a
      · subst hj
        rw [List.getElem?_set] at h
        by_cases hi : i < ρ.length
        · simp [hi] at h
          subst h
          exact ho.elim
        · simp [hi] at h
      · rw [List.getElem?_set_ne hj] at h; exact ⟨hj, h⟩
    obtain ⟨n1, e1⟩ := f h1 h5
    obtain ⟨n2, e2⟩ := f h2 h6
    rw [List.getElem?_set_ne n1] at h3
    rw [List.getElem?_set_ne n2] at h4
    exact R.sep a b s t u w p e1 e2 h3 h4 h5 h6
theorem Paired.memL {α β : Type} {F : α → β → Prop} : ∀ {l₁ : List α} {l₂ : List β}, Paired F l₁ l₂ → ∀ a ∈ l₁, ∃ b, b ∈ l₂ ∧ F a b
  | _, _, .nil, a, h => by cases h
  | _, _, .cons r t, a, h => by
    rcases List.mem_cons.mp h with e | h
    · subst e; exact ⟨_, List.mem_cons_self, r⟩
    · obtain ⟨b, h1, h2⟩ := Paired.memL t a h
      exact ⟨b, List.mem_cons_of_mem _ h1, h2⟩
/-- an own slot's object is none of S, and no tuple -/
theorem SlR.ref {s : Sl} {v : V} {p : Addr} (h : SlR B S H v s) (ho : s.has v p) : ∃ o, B.H p = none ∧ S p = none ∧ H p = some o ∧ ∀ xs, o ≠ .tup xs := by
  cases s with
  | d x => exact ho.elim
  | x a => exact ho.elim
  | l xs => obtain ⟨p', vs, e1, e2, e3, e4, e5⟩ := h; cases e1.symm.trans ho; exact ⟨_, e2, e3, e4, fun _ z => by cases z⟩
  | t nw xs => obtain ⟨p', vs, e1, e2, e3, e4, e5⟩ := h; cases e1.symm.trans ho; exact ⟨_, e2, e3, e4, fun _ z => by cases z⟩
  | k xs => obtain ⟨p', vs, e1, e2, e3, e4, e5⟩ := h; cases e1.symm.trans ho; exact ⟨_, e2, e3, e4, fun _ z => by cases z⟩
  | pp a fp ps =>
    obtain ⟨e1, e2, e3, e4, e5, e6⟩ := h
    rcases ho with rfl | ⟨e, he, ho⟩
    · exact ⟨_, e2, e3, e4, fun _ z => by cases z⟩
    · obtain ⟨b, _, h1, h2, h3⟩ := Paired.memL e6 e he
      rcases ho with rfl | rfl
      · obtain ⟨vs, k1, k2, k3, _⟩ := h2
        exact ⟨_, k1, k2, k3, fun _ z => by cases z⟩
      · obtain ⟨vs, k1, k2, k3, _⟩ := h3
        exact ⟨_, k1, k2, k3, fun _ z => by cases z⟩
  | p2 e x =>
    obtain ⟨e1, ⟨_, h2, h3⟩, _⟩ := h
    rcases ho with rfl | rfl
    · obtain ⟨vs, k1, k2, k3, _⟩ := h2
      exact ⟨_, k1, k2, k3, fun _ z => by cases z⟩
    · obtain ⟨vs, k1, k2, k3, _⟩ := h3
      exact ⟨_, k1, k2, k3, fun _ z => by cases z⟩
/-- a slot is written: a new own object -/
theorem Rel.setO (R : Rel B ρ σ H S) (eH : Ex H H') (R' : Rel B ρ σ H' S') (i : Nat) {v0 : V} {s : Sl} (ho : ∀ q, s.has v0 q → H q = none) (h : SlR B S' H' v0 s) : Rel B (ρ.set i (some s)) (σ.set i (some v0)) H' S' where
  exH := R'.exH
  exS := R'.exS
  sub := R'.sub
  nw := R'.nw
  len := by rw [List.length_set, List.length_set]; exact R.len
  sl := fun j s' e => by
    by_cases hj : i = j
    · subst hj
      rw [List.getElem?_set] at e
      have hl := R.len
      by_cases hi : i < ρ.length
      · simp [hi] at e
        subst e
        exact ⟨v0, by rw [List.getElem?_set]; simp [show i < σ.length by omega], h⟩
      · simp [hi] at e
    · rw [List.getElem?_set_ne hj] at e
      rw [List.getElem?_set_ne hj]
      exact R'.sl j s' e
  sep := fun a b s1 t u w q h1 h2 h3 h4 h5 h6 => by
    have hl := R.len
    have f : ∀ {a : Nat} {s' : Sl} {u : V}, (ρ.set i (some s))[a]? = some (some s') → (σ.set i (some v0))[a]? = some (some u) → s'.has u q → (i = a ∧ s.has v0 q) ∨ (i ≠ a ∧ ρ[a]? = some (some s') ∧ σ[a]? = some (some u) ∧ H q ≠ none) := fun {a s' u} h hv ho' => by
      by_cases hj : i = a
      · subst hj
        rw [List.getElem?_set] at hv h
        by_cases hi : i < σ.length
        · simp [hi] at hv
          simp [show i < ρ.length by omega] at h
          subst h hv
          exact .inl ⟨rfl, ho'⟩
        · simp [hi] at hv
      · rw [List.getElem?_set_ne hj] at h hv
        refine .inr ⟨hj, h, hv, fun z => ?_⟩
        obtain ⟨v, e1, e2⟩ := R.sl a s' h
        rw [hv] at e1; cases e1
        obtain ⟨o, _, _, f4, _⟩ := e2.ref ho'
        rw [z] at f4; cases f4
    rcases f h1 h3 h5 with ⟨n1, e1⟩ | ⟨n1, e1, e2, e3⟩ <;> rcases f h2 h4 h6 with ⟨n2, g1⟩ | ⟨n2, g1, g2, g3⟩
    · exact n1.symm.trans n2
    · exact absurd (ho _ e1) g3
    · exact absurd (ho _ g1) e3
    · exact R.sep a b s1 t u w q e1 g1 e2 g2 h5 h6
/-- an own slot's object is changed in place -/
theorem Rel.mutO (R : Rel B ρ σ H S) {i : Nat} {s s' : Sl} {v0 : V} {p : Addr} {o : HO} (hi : ρ[i]? = some (some s)) (hv : σ[i]? = some (some v0)) (ho : s.has v0 p)
    (hs : ∀ q, s'.has v0 q → s.has v0 q ∨ ∀ (j : Nat) t w, ρ[j]? = some (some t) → σ[j]? = some (some w) → ¬ t.has w q) (h : SlR B S (upd H p o) v0 s') : Rel B (ρ.set i (some s')) σ (upd H p o) S := by
  obtain ⟨v, e1, e2⟩ := R.sl i s hi
  rw [hv] at e1; cases e1
  obtain ⟨u, f2, f3, f4, f5⟩ := e2.ref ho
  have hl := R.len
  have hiρ : i < ρ.length := (List.getElem?_eq_some_iff.mp hi).1
  refine ⟨R.exH.mut f2, R.exS, R.sub.mut f3, R.nw, by rw [List.length_set]; exact R.len, fun j t e => ?_, fun a b t1 t2 v w q h1 h2 h3 h4 h5 h6 => ?_⟩
  · by_cases hj : i = j
    · subst hj
      rw [List.getElem?_set_self hiρ] at e
      cases e
      exact ⟨_, hv, h⟩
    · rw [List.getElem?_set_ne hj] at e
      obtain ⟨v, g1, g2⟩ := R.sl j t e
      refine ⟨v, g1, ?_⟩
      have nq : ∀ q, t.has v q → q ≠ p := fun q ot z => by
        subst z
        exact hj (R.sep i j s t v0 v _ hi e hv g1 ho ot)
      cases t with
      | d x => exact g2
      | x a => exact g2
      | l xs => obtain ⟨q, vs, k1, k2, k3, k4, k5⟩ := g2; exact ⟨q, vs, k1, k2, k3, by rw [upd_ne (nq q k1)]; exact k4, k5⟩
      | t nw xs => obtain ⟨q, vs, k1, k2, k3, k4, k5⟩ := g2; exact ⟨q, vs, k1, k2, k3, by rw [upd_ne (nq q k1)]; exact k4, k5⟩
      | p2 e x =>
        obtain ⟨k1, ⟨r1, r2, r3⟩, k3⟩ := g2
        have own : ∀ q xs, q ≠ p → OwnAt B S H q xs → OwnAt B S (upd H p o) q xs := fun q xs hq ⟨vs, m1, m2, m3, m4⟩ => ⟨vs, m1, m2, by rw [upd_ne hq]; exact m3, m4⟩
        refine ⟨k1, ⟨?_, own _ _ (nq _ (.inl rfl)) r2, own _ _ (nq _ (.inr rfl)) r3⟩, k3⟩
        rw [upd_ne]
        · exact r1
        · intro z
          rw [z, f4] at r1
          cases r1
          exact f5 _ rfl
      | k xs => obtain ⟨q, vs, k1, k2, k3, k4, k5⟩ := g2; exact ⟨q, vs, k1, k2, k3, by rw [upd_ne (nq q k1)]; exact k4, k5⟩
      | pp a fp ps =>
        obtain ⟨k1, k2, k3, k4, k5, k6⟩ := g2
        refine ⟨k1, k2, k3, by rw [upd_ne (nq a (.inl rfl))]; exact k4, k5, ?_⟩
        have own : ∀ q xs, q ≠ p → OwnAt B S H q xs → OwnAt B S (upd H p o) q xs := fun q xs hq ⟨vs, m1, m2, m3, m4⟩ => ⟨vs, m1, m2, by rw [upd_ne hq]; exact m3, m4⟩
        have key : ∀ {l : List (Addr × Addr × Addr)} {ps : List (List PyData × List PyData)}, Paired (OwnP B S H) l ps → (∀ e ∈ l, e ∈ fp) → Paired (OwnP B S (upd H p o)) l ps := by
          intro l ps hp
          induction hp with
          | nil => intro _; exact .nil
          | cons r _ ih =>
            intro hm
            obtain ⟨r1, r2, r3⟩ := r
            have hm0 := hm _ List.mem_cons_self
            refine .cons ⟨?_, own _ _ (nq _ (.inr ⟨_, hm0, .inl rfl⟩)) r2, own _ _ (nq _ (.inr ⟨_, hm0, .inr rfl⟩)) r3⟩ (ih fun e he => hm e (List.mem_cons_of_mem _ he))
            rw [upd_ne]
            · exact r1
            · intro z
              rw [z, f4] at r1
              cases r1
              exact f5 _ rfl
        exact key k6 fun _ h => h
  · have f : ∀ {a : Nat} {s1 : Sl} {u : V}, (ρ.set i (some s'))[a]? = some (some s1) → σ[a]? = some (some u) → s1.has u q → (i = a ∧ ∀ (j : Nat) t w, ρ[j]? = some (some t) → σ[j]? = some (some w) → ¬ t.has w q) ∨ ∃ s2, s2.has u q ∧ ρ[a]? = some (some s2) := fun {a s1 u} h hu ho1 => by
      by_cases hj : i = a
      · subst hj
        rw [List.getElem?_set_self hiρ] at h
        cases h
        rw [hv] at hu; cases hu
        rcases hs q ho1 with z | z
        · exact .inr ⟨s, z, hi⟩
        · exact .inl ⟨rfl, z⟩
      · rw [List.getElem?_set_ne hj] at h; exact .inr ⟨s1, ho1, h⟩
    rcases f h1 h3 h5 with ⟨n1, z1⟩ | ⟨s1, o1, e1⟩ <;> rcases f h2 h4 h6 with ⟨n2, z2⟩ | ⟨s2, o2, e2⟩
    · exact n1.symm.trans n2
    · exact absurd o2 (z1 _ _ _ e2 h4)
    · exact absurd o1 (z2 _ _ _ e1 h3)
    · exact R.sep a b s1 s2 v w q e1 e2 h3 h4 o1 o2
/-- an own list goes over into S -/
theorem Rel.freeze (R : Rel B ρ σ H S) {i : Nat} {xs : List PyData} (hi : ρ[i]? = some (some (.l xs))) : ∃ S', Ex S S' ∧ Rel B (ρ.set i (some (.d (.list xs)))) σ H S' := by
  obtain ⟨v, e1, p, vs, rfl, e2, e3, e4, e5⟩ := R.sl i _ hi
  have hiρ : i < ρ.length := (List.getElem?_eq_some_iff.mp hi).1
  have eS : Ex S (upd S p (.lst vs)) := Ex.new e3
  refine ⟨upd S p (.lst vs), eS, R.exH, R.exS.trans eS, fun a u e => ?_, fun a u e e' => ?_, by rw [List.length_set]; exact R.len, fun j t e => ?_, fun a b t1 t2 v w q h1 h2 h3 h4 h5 h6 => ?_⟩
  · by_cases ha : a = p
    · subst ha; rw [upd_same] at e; cases e; exact e4
    · rw [upd_ne ha] at e; exact R.sub _ _ e
  · by_cases ha : a = p
    · subst ha; exact .inl e2
    · rw [upd_ne ha] at e; exact R.nw _ _ e e'
  · by_cases hj : i = j
    · subst hj
      rw [List.getElem?_set_self hiρ] at e
      cases e
      exact ⟨_, e1, .lst upd_same (e5.mono eS)⟩
    · rw [List.getElem?_set_ne hj] at e
      obtain ⟨v, g1, g2⟩ := R.sl j t e
      refine ⟨v, g1, ?_⟩
      have nq : ∀ q, t.has v q → q ≠ p := fun q ot z => by
        subst z
        exact hj (R.sep i j _ t _ v _ hi e e1 g1 rfl ot)
      cases t with
      | d x => exact Rp.mono eS g2
      | x a => exact g2
      | l xs => obtain ⟨q, vs, k1, k2, k3, k4, k5⟩ := g2; exact ⟨q, vs, k1, k2, by rw [upd_ne (nq q k1)]; exact k3, k4, k5.mono eS⟩
      | t nw xs => obtain ⟨q, vs, k1, k2, k3, k4, k5⟩ := g2; exact ⟨q, vs, k1, k2, by rw [upd_ne (nq q k1)]; exact k3, k4, k5.mono (vS_mono eS)⟩
      | p2 e x =>
        obtain ⟨k1, ⟨r1, r2, r3⟩, k3⟩ := g2
        have own : ∀ q xs, q ≠ p → OwnAt B S H q xs → OwnAt B (upd S p (.lst vs)) H q xs := fun q xs hq ⟨vs, m1, m2, m3, m4⟩ => ⟨vs, m1, by rw [upd_ne hq]; exact m2, m3, m4.mono eS⟩
        exact ⟨k1, ⟨r1, own _ _ (nq _ (.inl rfl)) r2, own _ _ (nq _ (.inr rfl)) r3⟩, k3⟩
      | k xs => obtain ⟨q, vs, k1, k2, k3, k4, k5⟩ := g2; exact ⟨q, vs, k1, k2, by rw [upd_ne (nq q k1)]; exact k3, k4, k5.mono eS⟩
      | pp a fp ps =>
        obtain ⟨k1, k2, k3, k4, k5, k6⟩ := g2
        refine ⟨k1, k2, by rw [upd_ne (nq a (.inl rfl))]; exact k3, k4, k5, ?_⟩
        have own : ∀ q xs, q ≠ p → OwnAt B S H q xs → OwnAt B (upd S p (.lst vs)) H q xs := fun q xs hq ⟨vs, m1, m2, m3, m4⟩ => ⟨vs, m1, by rw [upd_ne hq]; exact m2, m3, m4.mono eS⟩
        have key : ∀ {l : List (Addr × Addr × Addr)} {ps : List (List PyData × List PyData)}, Paired (OwnP B S H) l ps → (∀ e ∈ l, e ∈ fp) → Paired (OwnP B (upd S p (.lst vs)) H) l ps := by
          intro l ps hp
          induction hp with
          | nil => intro _; exact .nil
          | cons r _ ih =>
            intro hm
            obtain ⟨r1, r2, r3⟩ := r
            have hm0 := hm _ List.mem_cons_self
            exact .cons ⟨r1, own _ _ (nq _ (.inr ⟨_, hm0, .inl rfl⟩)) r2, own _ _ (nq _ (.inr ⟨_, hm0, .inr rfl⟩)) r3⟩ (ih fun e he => hm e (List.mem_cons_of_mem _ he))
        exact key k6 fun _ h => h
  · have f : ∀ {a : Nat} {s1 : Sl} {u : V}, (ρ.set i (some (.d (.list xs))))[a]? = some (some s1) → s1.has u q → ρ[a]? = some (some s1) := fun {a s1 u} h ho1 => by
      by_cases hj : i = a
      · subst hj
        rw [List.getElem?_set_self hiρ] at h
        cases h
        exact ho1.elim
      · rw [List.getElem?_set_ne hj] at h; exact h
    exact R.sep a b t1 t2 v w q (f h1 h5) (f h2 h6) h3 h4 h5 h6
end
end Dt

/-! Dt: the judgements over expressions. DE: the value is read; DK: it is kept (it stands in S); DF: a new own list; DL: a list whose items are kept; DM: a dict of tuples, read; DB: a test. -/
namespace Dt
open PySem PySem.Spec PyProof.Rows L2
variable {κ : PySem.W.Frag}
theorem _root_.L2.PE.imp {X : Cx} {e : Expr} {t t' : TE} (h : PE X e t) (i : ∀ σ H Q, t' σ H Q → t σ H Q) : PE X e t' := ⟨fun pins s σ H Q I q => h.run pins s σ H Q I (i σ H Q q)⟩
theorem _root_.L2.PT.imp {X : Cx} {e : Expr} {t t' : TT} (h : PT X e t) (i : ∀ σ H Q, t' σ H Q → t σ H Q) : PT X e t' := ⟨fun pins s σ H Q I q => h.run pins s σ H Q I (i σ H Q q)⟩
theorem _root_.L2.PA.imp {X : Cx} {e : List Expr} {t t' : TA} (h : PA X e t) (i : ∀ σ H Q, t' σ H Q → t σ H Q) : PA X e t' := ⟨fun pos pins s σ H Q I q => h.run pos pins s σ H Q I (i σ H Q q)⟩
theorem _root_.L2.PS.imp {X : Cx} {e : Stmt} {t t' : TS} (h : PS X e t) (i : ∀ D σ H, t' D σ H → t D σ H) : PS X e t' := ⟨fun pins s σ H Q I q => h.run pins s σ H Q I (i Q σ H q)⟩
theorem _root_.L2.PSs.imp {X : Cx} {e : List Stmt} {t t' : TS} (h : PSs X e t) (i : ∀ D σ H, t' D σ H → t D σ H) : PSs X e t' := ⟨fun pins s σ H Q I q => h.run pins s σ H Q I (i Q σ H q)⟩

/-- the heap has grown, S with it by new things alone -/
structure Step (S H S' H' : Hp) : Prop where
  h : Ex H H'
  s : Ex S S'
  sub : Ex S' H'
  nw : ∀ a o, S' a = some o → S a = none → NT H a
theorem Step.refl {S H : Hp} (e : Ex S H) : Step S H S H := ⟨Ex.refl _, Ex.refl _, e, fun a o h h' => by rw [h] at h'; cases h'⟩
theorem Step.heap {S H H' : Hp} (e : Ex S H) (e' : Ex H H') : Step S H S H' := ⟨e', Ex.refl _, e.trans e', fun a o h h' => by rw [h] at h'; cases h'⟩
theorem Step.trans {S H S1 H1 S2 H2 : Hp} (a : Step S H S1 H1) (b : Step S1 H1 S2 H2) : Step S H S2 H2 := ⟨a.h.trans b.h, a.s.trans b.s, b.sub, fun x o h h' => by
  cases q : S1 x with
  | none => exact NT.back a.h (b.nw x o h q)
  | some u => exact a.nw x u q h'⟩
theorem Step.new {S H : Hp} {p : Addr} {o : HO} (e : Ex S H) (hp : H p = none) : Step S H (upd S p o) (upd H p o) := by
  have hs : S p = none := e.back hp
  refine ⟨Ex.new hp, Ex.new hs, fun a u h => ?_, fun a u h h' => ?_⟩
  · by_cases ha : a = p
    · subst ha; rw [upd_same] at h ⊢; exact h
    · rw [upd_ne ha] at h ⊢; exact e _ _ h
  · by_cases ha : a = p
    · subst ha; exact .inl hp
    · rw [upd_ne ha, h'] at h; cases h
/-- an own object of H' that H did not have goes over into S' -/
theorem Step.take {S H S' H' : Hp} (t : Step S H S' H') {p : Addr} {o : HO} (hp : H p = none) (hs : S' p = none) (hv : H' p = some o) : Step S H (upd S' p o) H' := by
  refine ⟨t.h, t.s.trans (Ex.new hs), fun a u h => ?_, fun a u h h' => ?_⟩
  · by_cases ha : a = p
    · subst ha; rw [upd_same] at h; cases h; exact hv
    · rw [upd_ne ha] at h; exact t.sub _ _ h
  · by_cases ha : a = p
    · subst ha; exact .inl hp
    · rw [upd_ne ha] at h; exact t.nw _ _ h h'
theorem Rel.step {B : Base κ} {ρ : Rho} {σ : L2.St} {H S H' S' : Hp} (R : Rel B ρ σ H S) (t : Step S H S' H') : Rel B ρ σ H' S' := R.grow t.h t.s t.sub t.nw

def rE (B : Base κ) (ρ : Rho) (x : PyData) : TE := fun σ H Q => ∃ S, Rel B ρ σ H S ∧ ∀ v H2, Ex H H2 → Rp κ H2 v x → Q v H2
def rK (B : Base κ) (ρ : Rho) (x : PyData) : TE := fun σ H Q => ∃ S, Rel B ρ σ H S ∧ ∀ v H2 S2, Step S H S2 H2 → Rp κ S2 v x → Q v H2
def rF (B : Base κ) (ρ : Rho) (xs : List PyData) : TE := fun σ H Q => ∃ S, Rel B ρ σ H S ∧ ∀ p vs H2 S2, Step S H S2 H2 → H p = none → S2 p = none → H2 p = some (.lst vs) → RpA κ S2 vs xs → Q (.ref p) H2
def rL (B : Base κ) (ρ : Rho) (xs : List PyData) : TE := fun σ H Q => ∃ S, Rel B ρ σ H S ∧ ∀ p vs H2 S2, Step S H S2 H2 → H2 p = some (.lst vs) → RpA κ S2 vs xs → Q (.ref p) H2
def rM (B : Base κ) (ρ : Rho) (kvs : List (List Key × PyData)) : TE := fun σ H Q => ∃ S, Rel B ρ σ H S ∧ ∀ p ws H2 S2, Step S H S2 H2 → Rd H2 p (.dT ws) → PT' κ S2 ws kvs → Q (.ref p) H2
def rB (B : Base κ) (ρ : Rho) (b : Bool) : TT := fun σ H Q => ∃ S, Rel B ρ σ H S ∧ ∀ H2, Ex H H2 → Q b H2
def rAe (B : Base κ) (ρ : Rho) (xs : List PyData) : TA := fun σ H Q => ∃ S, Rel B ρ σ H S ∧ ∀ vs H2, Ex H H2 → RpA κ H2 vs xs → Q vs H2
def rAk (B : Base κ) (ρ : Rho) (xs : List PyData) : TA := fun σ H Q => ∃ S, Rel B ρ σ H S ∧ ∀ vs H2 S2, Step S H S2 H2 → RpA κ S2 vs xs → Q vs H2
/-- e is read as x -/
def DE (X : Cx) (e : Expr) (ρ : Rho) (x : PyData) : Prop := ∀ B : Base X.K, PE X e (rE B ρ x)
def DK (X : Cx) (e : Expr) (ρ : Rho) (x : PyData) : Prop := ∀ B : Base X.K, PE X e (rK B ρ x)
def DF (X : Cx) (e : Expr) (ρ : Rho) (xs : List PyData) : Prop := ∀ B : Base X.K, PE X e (rF B ρ xs)
def DL (X : Cx) (e : Expr) (ρ : Rho) (xs : List PyData) : Prop := ∀ B : Base X.K, PE X e (rL B ρ xs)
def DM (X : Cx) (e : Expr) (ρ : Rho) (kvs : List (List Key × PyData)) : Prop := ∀ B : Base X.K, PE X e (rM B ρ kvs)
def DB (X : Cx) (e : Expr) (ρ : Rho) (b : Bool) : Prop := ∀ B : Base X.K, PT X e (rB B ρ b)
def DAe (X : Cx) (es : List Expr) (ρ : Rho) (xs : List PyData) : Prop := ∀ B : Base X.K, PA X es (rAe B ρ xs)
def DAk (X : Cx) (es : List Expr) (ρ : Rho) (xs : List PyData) : Prop := ∀ B : Base X.K, PA X es (rAk B ρ xs)


section
variable {X : Cx} {e a b c : Expr} {es : List Expr} {ρ : Rho} {x y z : PyData} {xs ys : List PyData} {pos p2 : Pos} {i j : Int}

/-! ### from one to another -/
theorem DK.toE (h : DK X e ρ x) : DE X e ρ x := fun B => (h B).imp fun σ H Q ⟨S, R, q⟩ => ⟨S, R, fun v H2 S2 t r => q v H2 t.h (r.mono t.sub)⟩
theorem DF.toL (h : DF X e ρ xs) : DL X e ρ xs := fun B => (h B).imp fun σ H Q ⟨S, R, q⟩ => ⟨S, R, fun p vs H2 S2 t hp hs hv r => q p vs H2 S2 t hv r⟩
theorem DF.toK (h : DF X e ρ xs) : DK X e ρ (.list xs) := fun B => (h B).imp fun σ H Q ⟨S, R, q⟩ => ⟨S, R, fun p vs H2 S2 t hp hs hv r => q (.ref p) H2 (upd S2 p (.lst vs)) (t.take hp hs hv) (.lst upd_same (r.mono (Ex.new hs)))⟩
theorem DK.toL (h : DK X e ρ (.list xs)) : DL X e ρ xs := fun B => (h B).imp fun σ H Q ⟨S, R, q⟩ => ⟨S, R, fun v H2 S2 t r => by
  cases r with
  | lst h1 h2 => exact q _ _ H2 S2 t (t.sub _ _ h1) h2⟩
theorem DL.toE (h : DL X e ρ xs) : DE X e ρ (.list xs) := fun B => (h B).imp fun σ H Q ⟨S, R, q⟩ => ⟨S, R, fun p vs H2 S2 t hv r => q _ H2 t.h (.lst hv (r.mono t.sub))⟩
theorem DF.toE (h : DF X e ρ xs) : DE X e ρ (.list xs) := h.toL.toE
/-- what needs no heap is kept -/
theorem DE.toK (h : DE X e ρ x) (hs : scalD x = true) : DK X e ρ x := fun B => (h B).imp fun σ H Q ⟨S, R, q⟩ => ⟨S, R, fun v H2 e1 r => q v H2 S (.heap R.sub e1) (r.scal hs)⟩
theorem DE.cast (h : DE X e ρ x) (q : x = y) : DE X e ρ y := q ▸ h
theorem DK.cast (h : DK X e ρ x) (q : x = y) : DK X e ρ y := q ▸ h
theorem DF.cast (h : DF X e ρ xs) (q : xs = ys) : DF X e ρ ys := q ▸ h
theorem DL.cast (h : DL X e ρ xs) (q : xs = ys) : DL X e ρ ys := q ▸ h
theorem DB.cast {k k' : Bool} (h : DB X e ρ k) (q : k = k') : DB X e ρ k' := q ▸ h

/-! ### names and constants -/
theorem dk_var (i : Nat) {n : Str} (hN : X.N[i]? = some n) (hv : Vis X.env.scope n) (hd : (n == ("__debug__" : Str)) = false) (hcd : (n == ("__classdict__" : Str)) = false) (h : ρ[i]? = some (some (.d x))) : DK X (.Name n pos) ρ x := fun B =>
  (pe_var hN hv hd hcd).imp fun σ H Q ⟨S, R, q⟩ => by
    obtain ⟨v, h1, h2⟩ := R.get h
    exact ⟨v, h1, q v H S (.refl R.sub) h2⟩
theorem dl_var (i : Nat) {n : Str} (hN : X.N[i]? = some n) (hv : Vis X.env.scope n) (hd : (n == ("__debug__" : Str)) = false) (hcd : (n == ("__classdict__" : Str)) = false) (h : ρ[i]? = some (some (.l xs))) : DL X (.Name n pos) ρ xs := fun B =>
  (pe_var hN hv hd hcd).imp fun σ H Q ⟨S, R, q⟩ => by
    obtain ⟨v, h1, p, vs, rfl, _, _, h4, h5⟩ := R.sl i _ h
    exact ⟨.ref p, h1, q p vs H S (.refl R.sub) h4 h5⟩
theorem dm_var (i : Nat) {n : Str} {kvs : List (List Key × PyData)} (hN : X.N[i]? = some n) (hv : Vis X.env.scope n) (hd : (n == ("__debug__" : Str)) = false) (hcd : (n == ("__classdict__" : Str)) = false) {nw : Bool} (h : ρ[i]? = some (some (.t nw kvs))) : DM X (.Name n pos) ρ kvs := fun B =>
  (pe_var hN hv hd hcd).imp fun σ H Q ⟨S, R, q⟩ => by
    obtain ⟨v, h1, p, vs, rfl, _, _, h4, h5⟩ := R.sl i _ h
    exact ⟨.ref p, h1, q p vs H S (.refl R.sub) (.inl h4) (h5.mono vS_le)⟩
theorem dk_tC {v : V} (h : PE X e (tC v)) (r : ∀ H, Rp X.K H v x) : DK X e ρ x := fun B => h.imp fun σ H Q ⟨S, R, q⟩ => q v H S (.refl R.sub) (r S)
theorem dk_int {i : Int} {k : Nat} : DK X (.Constant (.int i) k pos) ρ (.int i) := dk_tC pe_int fun _ => .int i
theorem dk_bl {b : Bool} {k : Nat} : DK X (.Constant (.bool b) k pos) ρ (.bool b) := dk_tC pe_bl fun _ => .bl b
theorem dk_non {k : Nat} : DK X (.Constant .none k pos) ρ .none := dk_tC pe_non fun _ => .non
theorem dk_str {s : Str} {k : Nat} : DK X (.Constant (.str s) k pos) ρ (.str s) := dk_tC pe_str fun _ => .str s
/-- a constant of the module -/
theorem dk_glob {n : Str} {v : V} {u : Value} (hg : Gl X n) (hm : X.mg n = some u) (r : RelV v u) (hr : ∀ H, Rp X.K H v x) (hd : (n == ("__debug__" : Str)) = false) : DK X (.Name n pos) ρ x := dk_tC (pe_glob hg hm r hd) hr

/-! ### two-place operations whose answer needs no heap -/
theorem dk_op {op : Operator} {r : R2} (ho : OpR X (binaryOp op) r) (ha : DE X a ρ x) (hb : DE X b ρ y) (hs : scalD z = true) (hr : ∀ u v H (Q : VK), Rp X.K H u x → Rp X.K H v y → (∀ w, Rp X.K H w z → Q w H) → r u v H Q) : DK X (.BinOp a op b pos) ρ z := fun B =>
  (pe_op ho (ha B) (hb B)).imp fun σ H Q ⟨S, R, q⟩ => ⟨S, R, fun u H1 e1 r1 => ⟨S, R.heap e1, fun v H2 e2 r2 => hr u v H2 Q (r1.mono e2) r2 fun w rw' => q w H2 S (.heap R.sub (e1.trans e2)) (rw'.scal hs)⟩⟩
theorem dk_cmp {op : CmpOp} {r : R2} {k : Bool} (ho : OpR X (compareOp op) r) (ha : DE X a ρ x) (hb : DE X b ρ y) (hm : behindInMarks op b = false) (hr : ∀ u v H (Q : VK), Rp X.K H u x → Rp X.K H v y → Q (.bl k) H → r u v H Q) : DK X (.Compare a [op] [b] pos) ρ (.bool k) := fun B =>
  (pe_cmpR ho (ha B) (hb B) hm).imp fun σ H Q ⟨S, R, q⟩ => ⟨S, R, fun u H1 e1 r1 => ⟨S, R.heap e1, fun v H2 e2 r2 => hr u v H2 Q (r1.mono e2) r2 (q _ H2 S (.heap R.sub (e1.trans e2)) (.bl k))⟩⟩
theorem db_cmp {op : CmpOp} {r : R2} {k : Bool} (ho : OpR X (compareOp op) r) (ha : DE X a ρ x) (hb : DE X b ρ y) (hm : behindInMarks op b = false) (hr : ∀ u v H (Q : VK), Rp X.K H u x → Rp X.K H v y → Q (.bl k) H → r u v H Q) : DB X (.Compare a [op] [b] pos) ρ k := fun B =>
  (pt_cmpR ho (ha B) (hb B) hm).imp fun σ H Q ⟨S, R, q⟩ => ⟨S, R, fun u H1 e1 r1 => ⟨S, R.heap e1, fun v H2 e2 r2 => hr u v H2 _ (r1.mono e2) r2 ⟨k, rfl, q H2 (e1.trans e2)⟩⟩⟩
theorem Rp.int' {H : Hp} {v : V} {i : Int} (h : Rp X.K H v (.int i)) : v = .int i := by cases h; rfl
theorem Rp.str' {H : Hp} {v : V} {i : Str} (h : Rp X.K H v (.str i)) : v = .str i := by cases h; rfl
theorem Rp.bl' {H : Hp} {v : V} {i : Bool} (h : Rp X.K H v (.bool i)) : v = .bl i := by cases h; rfl
theorem Rp.non' {H : Hp} {v : V} (h : Rp X.K H v .none) : v = .non := by cases h; rfl
theorem dk_I0 {op : Operator} {g : Int → Int → Int} (ho : OpR X (binaryOp op) (rI0 fun i j => .int (g i j))) (ha : DE X a ρ (.int i)) (hb : DE X b ρ (.int j)) : DK X (.BinOp a op b pos) ρ (.int (g i j)) :=
  dk_op ho ha hb rfl fun u v H Q h1 h2 q => ⟨i, j, h1.int', h2.int', q _ (.int _)⟩
theorem dk_I {op : Operator} {C : Int → Int → Prop} {g : Int → Int → Int} (ho : OpR X (binaryOp op) (rI C fun i j => .int (g i j))) (ha : DE X a ρ (.int i)) (hb : DE X b ρ (.int j)) (hc : C i j) : DK X (.BinOp a op b pos) ρ (.int (g i j)) :=
  dk_op ho ha hb rfl fun u v H Q h1 h2 q => ⟨i, j, h1.int', h2.int', hc, q _ (.int _)⟩
theorem dk_add (ha : DE X a ρ (.int i)) (hb : DE X b ρ (.int j)) : DK X (.BinOp a .Add b pos) ρ (.int (i + j)) := dk_I0 op_add ha hb
theorem dk_sub (ha : DE X a ρ (.int i)) (hb : DE X b ρ (.int j)) : DK X (.BinOp a .Sub b pos) ρ (.int (i - j)) := dk_I0 op_sub ha hb
theorem dk_mul (ha : DE X a ρ (.int i)) (hb : DE X b ρ (.int j)) (hc : CMul i j) : DK X (.BinOp a .Mult b pos) ρ (.int (i * j)) := dk_I op_mul ha hb hc
theorem dk_mod (ha : DE X a ρ (.int i)) (hb : DE X b ρ (.int j)) (hc : 0 < j) : DK X (.BinOp a .Mod b pos) ρ (.int (i % j)) := dk_I op_mod ha hb hc
theorem dk_div (ha : DE X a ρ (.int i)) (hb : DE X b ρ (.int j)) (hc : 0 < j ∧ j < 1073741824) : DK X (.BinOp a .FloorDiv b pos) ρ (.int (i / j)) := dk_I op_fdiv ha hb hc
theorem dk_pow (ha : DE X a ρ (.int i)) (hb : DE X b ρ (.int j)) (hc : CPow i j) : DK X (.BinOp a .Pow b pos) ρ (.int (i ^ j.toNat)) := dk_I op_pow ha hb hc
theorem dk_neg (ha : DE X a ρ (.int i)) : DK X (.UnaryOp .USub a pos) ρ (.int (-i)) := fun B =>
  (pe_un un_neg (ha B)).imp fun σ H Q ⟨S, R, q⟩ => ⟨S, R, fun u H1 e1 r1 => ⟨i, r1.int', q _ H1 S (.heap R.sub e1) (.int _)⟩⟩
theorem dk_adds {s t : Str} (ha : DE X a ρ (.str s)) (hb : DE X b ρ (.str t)) (hl : s.length + t.length ≤ sizeLine) : DK X (.BinOp a .Add b pos) ρ (.str (s ++ t)) :=
  dk_op op_add_str ha hb rfl fun u v H Q h1 h2 q => ⟨s, t, h1.str', h2.str', hl, q _ (.str _)⟩

/-! ### comparisons of ints -/
theorem dk_cI {op : CmpOp} {p : Int → Int → Bool} (ho : OpR X (compareOp op) (rI0 fun i j => .bl (p i j))) (hm : behindInMarks op b = false) (ha : DE X a ρ (.int i)) (hb : DE X b ρ (.int j)) : DK X (.Compare a [op] [b] pos) ρ (.bool (p i j)) :=
  dk_cmp ho ha hb hm fun u v H Q h1 h2 q => ⟨i, j, h1.int', h2.int', q⟩
theorem db_cI {op : CmpOp} {p : Int → Int → Bool} (ho : OpR X (compareOp op) (rI0 fun i j => .bl (p i j))) (hm : behindInMarks op b = false) (ha : DE X a ρ (.int i)) (hb : DE X b ρ (.int j)) : DB X (.Compare a [op] [b] pos) ρ (p i j) :=
  db_cmp ho ha hb hm fun u v H Q h1 h2 q => ⟨i, j, h1.int', h2.int', q⟩
theorem db_lt (ha : DE X a ρ (.int i)) (hb : DE X b ρ (.int j)) : DB X (.Compare a [.Lt] [b] pos) ρ (decide (i < j)) := db_cI op_lt (nomark _) ha hb
theorem db_le (ha : DE X a ρ (.int i)) (hb : DE X b ρ (.int j)) : DB X (.Compare a [.LtE] [b] pos) ρ (decide (i ≤ j)) := db_cI op_le (nomark _) ha hb
theorem db_gt (ha : DE X a ρ (.int i)) (hb : DE X b ρ (.int j)) : DB X (.Compare a [.Gt] [b] pos) ρ (decide (j < i)) := db_cI op_gt (nomark _) ha hb
theorem db_ge (ha : DE X a ρ (.int i)) (hb : DE X b ρ (.int j)) : DB X (.Compare a [.GtE] [b] pos) ρ (decide (j ≤ i)) := db_cI op_ge (nomark _) ha hb
theorem dk_lt (ha : DE X a ρ (.int i)) (hb : DE X b ρ (.int j)) : DK X (.Compare a [.Lt] [b] pos) ρ (.bool (decide (i < j))) := dk_cI op_lt (nomark _) ha hb
theorem dk_le (ha : DE X a ρ (.int i)) (hb : DE X b ρ (.int j)) : DK X (.Compare a [.LtE] [b] pos) ρ (.bool (decide (i ≤ j))) := dk_cI op_le (nomark _) ha hb
theorem dk_gt (ha : DE X a ρ (.int i)) (hb : DE X b ρ (.int j)) : DK X (.Compare a [.Gt] [b] pos) ρ (.bool (decide (j < i))) := dk_cI op_gt (nomark _) ha hb
theorem dk_ge (ha : DE X a ρ (.int i)) (hb : DE X b ρ (.int j)) : DK X (.Compare a [.GtE] [b] pos) ρ (.bool (decide (j ≤ i))) := dk_cI op_ge (nomark _) ha hb

/-! ### == and != of data; in over lists of data -/
theorem eqD_rule (k : Bool) {d1 d2 : PyData} (h1 : SeqAt.shaped x = true) (h2 : SeqAt.shaped y = true) : ∀ u v H (Q : VK), Rp X.K H u x → Rp X.K H v y → Q (.bl (PyData.eqv x y)) H → rEqD X.K u v H Q := fun u v H Q r1 r2 q =>
  ⟨x, y, r1.dp (SeqAt.canLay_of_shaped h1), r2.dp (SeqAt.canLay_of_shaped h2), h1, h2, q⟩
theorem dk_eqD {n : Nat} (hr : Room n X.A) (ha : DE X a ρ x) (hb : DE X b ρ y) (h1 : SeqAt.shaped x = true) (h2 : SeqAt.shaped y = true) : DK X (.Compare a [.Eq] [b] pos) ρ (.bool (PyData.eqv x y)) :=
  dk_cmp (op_eqD hr.units) ha hb (nomark _) fun u v H Q r1 r2 q => ⟨x, y, r1.dp (SeqAt.canLay_of_shaped h1), r2.dp (SeqAt.canLay_of_shaped h2), h1, h2, q⟩
theorem db_eqD {n : Nat} (hr : Room n X.A) (ha : DE X a ρ x) (hb : DE X b ρ y) (h1 : SeqAt.shaped x = true) (h2 : SeqAt.shaped y = true) : DB X (.Compare a [.Eq] [b] pos) ρ (PyData.eqv x y) :=
  db_cmp (op_eqD hr.units) ha hb (nomark _) fun u v H Q r1 r2 q => ⟨x, y, r1.dp (SeqAt.canLay_of_shaped h1), r2.dp (SeqAt.canLay_of_shaped h2), h1, h2, q⟩
theorem dk_neD {n : Nat} (hr : Room n X.A) (ha : DE X a ρ x) (hb : DE X b ρ y) (h1 : SeqAt.shaped x = true) (h2 : SeqAt.shaped y = true) : DK X (.Compare a [.NotEq] [b] pos) ρ (.bool (!PyData.eqv x y)) :=
  dk_cmp (op_neD hr.units) ha hb (nomark _) fun u v H Q r1 r2 q => ⟨x, y, r1.dp (SeqAt.canLay_of_shaped h1), r2.dp (SeqAt.canLay_of_shaped h2), h1, h2, q⟩
theorem db_neD {n : Nat} (hr : Room n X.A) (ha : DE X a ρ x) (hb : DE X b ρ y) (h1 : SeqAt.shaped x = true) (h2 : SeqAt.shaped y = true) : DB X (.Compare a [.NotEq] [b] pos) ρ (!PyData.eqv x y) :=
  db_cmp (op_neD hr.units) ha hb (nomark _) fun u v H Q r1 r2 q => ⟨x, y, r1.dp (SeqAt.canLay_of_shaped h1), r2.dp (SeqAt.canLay_of_shaped h2), h1, h2, q⟩
theorem db_inD {n : Nat} (hr : Room n X.A) (hm : behindInMarks .In b = false) (ha : DE X a ρ x) (hb : DE X b ρ (.list ys)) (h1 : SeqAt.shaped x = true) (h2 : SeqAt.shaped (.list ys) = true) : DB X (.Compare a [.In] [b] pos) ρ (ys.any fun z => PyData.eqv z x) :=
  db_cmp (op_inD (by have := hr.un; omega)) ha hb hm fun u v H Q r1 r2 q => ⟨x, ys, r1.dp (SeqAt.canLay_of_shaped h1), r2.dp (SeqAt.canLay_of_shaped h2), h1, h2, q⟩
theorem db_ninD {n : Nat} (hr : Room n X.A) (hm : behindInMarks .NotIn b = false) (ha : DE X a ρ x) (hb : DE X b ρ (.list ys)) (h1 : SeqAt.shaped x = true) (h2 : SeqAt.shaped (.list ys) = true) : DB X (.Compare a [.NotIn] [b] pos) ρ (!ys.any fun z => PyData.eqv z x) :=
  db_cmp (op_notInD (by have := hr.un; omega)) ha hb hm fun u v H Q r1 r2 q => ⟨x, ys, r1.dp (SeqAt.canLay_of_shaped h1), r2.dp (SeqAt.canLay_of_shaped h2), h1, h2, q⟩
/-- is None, is not None -/
def isNoneD : PyData → Bool
  | .none => true
  | _ => false
theorem isNone_of {H : Hp} {v : V} (h : Rp X.K H v x) : decide (v = .non) = isNoneD x := by
  cases h <;> rfl
theorem dk_isN (ha : DE X a ρ x) {k : Nat} {p' : Pos} : DK X (.Compare a [.Is] [.Constant .none k p'] pos) ρ (.bool (isNoneD x)) := fun B =>
  (pe_cmpR op_isN (ha B) pe_non (nomark _)).imp fun σ H Q ⟨S, R, q⟩ => ⟨S, R, fun u H1 e1 r1 => ⟨rfl, by rw [isNone_of r1]; exact q _ H1 S (.heap R.sub e1) (.bl _)⟩⟩
theorem dk_notN (ha : DE X a ρ x) {k : Nat} {p' : Pos} : DK X (.Compare a [.IsNot] [.Constant .none k p'] pos) ρ (.bool (!isNoneD x)) := fun B =>
  (pe_cmpR op_notN (ha B) pe_non (nomark _)).imp fun σ H Q ⟨S, R, q⟩ => ⟨S, R, fun u H1 e1 r1 => ⟨rfl, by rw [isNone_of r1]; exact q _ H1 S (.heap R.sub e1) (.bl _)⟩⟩
/-- .. True, False of a truth -/
theorem dk_isB {k k' : Bool} (ha : DE X a ρ (.bool k)) (hb : DE X b ρ (.bool k')) : DK X (.Compare a [.Is] [b] pos) ρ (.bool (decide (k = k'))) :=
  dk_cmp op_is_bl ha hb (nomark _) fun u v H Q h1 h2 q => ⟨k, k', h1.bl', h2.bl', q⟩
theorem dk_isnB {k k' : Bool} (ha : DE X a ρ (.bool k)) (hb : DE X b ρ (.bool k')) : DK X (.Compare a [.IsNot] [b] pos) ρ (.bool (!decide (k = k'))) :=
  dk_cmp op_isnot_bl ha hb (nomark _) fun u v H Q h1 h2 q => ⟨k, k', h1.bl', h2.bl', q⟩
/-- a truth as a test -/
theorem DE.toB {k : Bool} (h : DE X e ρ (.bool k)) (he : ∀ whole, isTrue e X.env whole = (do let v ← whole; standAt e.pos; holding [v] (truthy v))) : DB X e ρ k := fun B =>
  (pt_val (h B) he).imp fun σ H Q ⟨S, R, q⟩ => ⟨S, R, fun u H1 e1 r1 => ⟨k, r1.bl', q H1 e1⟩⟩
theorem db_isN (ha : DE X a ρ x) {k : Nat} {p' : Pos} : DB X (.Compare a [.Is] [.Constant .none k p'] pos) ρ (isNoneD x) := fun B =>
  (pt_cmpR op_isN (ha B) pe_non (nomark _)).imp fun σ H Q ⟨S, R, q⟩ => ⟨S, R, fun u H1 e1 r1 => ⟨rfl, _, rfl, by rw [isNone_of r1]; exact q H1 e1⟩⟩
theorem db_notN (ha : DE X a ρ x) {k : Nat} {p' : Pos} : DB X (.Compare a [.IsNot] [.Constant .none k p'] pos) ρ (!isNoneD x) := fun B =>
  (pt_cmpR op_notN (ha B) pe_non (nomark _)).imp fun σ H Q ⟨S, R, q⟩ => ⟨S, R, fun u H1 e1 r1 => ⟨rfl, _, rfl, by rw [isNone_of r1]; exact q H1 e1⟩⟩
theorem db_isB {k k' : Bool} (ha : DE X a ρ (.bool k)) (hb : DE X b ρ (.bool k')) : DB X (.Compare a [.Is] [b] pos) ρ (decide (k = k')) :=
  db_cmp op_is_bl ha hb (nomark _) fun u v H Q h1 h2 q => ⟨k, k', h1.bl', h2.bl', q⟩
theorem db_isnB {k k' : Bool} (ha : DE X a ρ (.bool k)) (hb : DE X b ρ (.bool k')) : DB X (.Compare a [.IsNot] [b] pos) ρ (!decide (k = k')) :=
  db_cmp op_isnot_bl ha hb (nomark _) fun u v H Q h1 h2 q => ⟨k, k', h1.bl', h2.bl', q⟩

/-! ### and, or, not, if -/
variable {k k' : Bool} {rest : List Expr}
/-- a chain of tests -/
def DW (X : Cx) (e : Expr) (ρ : Rho) (b : Bool) : Prop := ∀ B : Base X.K, PW X e (rB B ρ b)
theorem _root_.L2.PW.imp {X : Cx} {e : Expr} {t t' : TT} (h : PW X e t) (i : ∀ σ H Q, t' σ H Q → t σ H Q) : PW X e t' := ⟨fun wh pins s σ H Q I q => h.run wh pins s σ H Q I (i σ H Q q)⟩
theorem DW.toB (h : DW X e ρ k) : DB X e ρ k := fun B => (h B).pt
theorem dw_and1 (h : DB X a ρ k) : DW X (.BoolOp .And [a] pos) ρ k := fun B => pw_and1 (h B)
theorem dw_or1 (h : DB X a ρ k) : DW X (.BoolOp .Or [a] pos) ρ k := fun B => pw_or1 (h B)
theorem dw_and (ha : DB X a ρ k) (hb : k = true → DW X (.BoolOp .And (b :: rest) pos) ρ k') : DW X (.BoolOp .And (a :: b :: rest) pos) ρ (k && k') := fun B =>
  PW.imp (pw_and (tB' := fun σ H Q => k = true ∧ rB B ρ k' σ H Q) (ha B) ⟨fun wh pins s σ H Q I q => (hb q.1 B).run wh pins s σ H Q I q.2⟩) fun σ H Q ⟨S, R, q⟩ => ⟨S, R, fun H1 e1 => by
    cases k with
    | true => exact iteT ⟨rfl, S, R.heap e1, fun H2 e2 => q H2 (e1.trans e2)⟩
    | false => exact iteF (q H1 e1)⟩
theorem dw_or (ha : DB X a ρ k) (hb : k = false → DW X (.BoolOp .Or (b :: rest) pos) ρ k') : DW X (.BoolOp .Or (a :: b :: rest) pos) ρ (k || k') := fun B =>
  PW.imp (pw_or (tB' := fun σ H Q => k = false ∧ rB B ρ k' σ H Q) (ha B) ⟨fun wh pins s σ H Q I q => (hb q.1 B).run wh pins s σ H Q I q.2⟩) fun σ H Q ⟨S, R, q⟩ => ⟨S, R, fun H1 e1 => by
    cases k with
    | true => exact iteT (q H1 e1)
    | false => exact iteF ⟨rfl, S, R.heap e1, fun H2 e2 => q H2 (e1.trans e2)⟩⟩
theorem db_not (ha : DB X a ρ k) : DB X (.UnaryOp .Not a pos) ρ (!k) := fun B => PT.imp (pt_not (ha B)) fun σ H Q ⟨S, R, q⟩ => ⟨S, R, fun H1 e1 => q H1 e1⟩
/-- .. as values -/
theorem de_one {op} (h : DE X a ρ x) : DE X (.BoolOp op [a] pos) ρ x := fun B => pe_one (h B)
theorem de_and (ha : DE X a ρ (.bool k)) (hb : k = true → DE X (.BoolOp .And (b :: rest) pos) ρ (.bool k')) : DE X (.BoolOp .And (a :: b :: rest) pos) ρ (.bool (k && k')) := fun B =>
  (pe_and (tb := fun σ H Q => k = true ∧ rE B ρ (.bool k') σ H Q) (ha B) ⟨fun pins s σ H Q I q => (hb q.1 B).run pins s σ H Q I q.2⟩).imp fun σ H Q ⟨S, R, q⟩ => ⟨S, R, fun v H1 e1 r1 => ⟨k, r1.bl', by
    cases k with
    | true => exact iteT ⟨rfl, S, R.heap e1, fun w H2 e2 r2 => q w H2 (e1.trans e2) r2⟩
    | false => exact iteF (q _ H1 e1 (.bl _))⟩⟩
theorem de_or (ha : DE X a ρ (.bool k)) (hb : k = false → DE X (.BoolOp .Or (b :: rest) pos) ρ (.bool k')) : DE X (.BoolOp .Or (a :: b :: rest) pos) ρ (.bool (k || k')) := fun B =>
  (pe_or (tb := fun σ H Q => k = false ∧ rE B ρ (.bool k') σ H Q) (ha B) ⟨fun pins s σ H Q I q => (hb q.1 B).run pins s σ H Q I q.2⟩).imp fun σ H Q ⟨S, R, q⟩ => ⟨S, R, fun v H1 e1 r1 => ⟨k, r1.bl', by
    cases k with
    | true => exact iteT (q _ H1 e1 (.bl _))
    | false => exact iteF ⟨rfl, S, R.heap e1, fun w H2 e2 r2 => q w H2 (e1.trans e2) r2⟩⟩⟩
theorem dk_and (ha : DE X a ρ (.bool k)) (hb : k = true → DE X (.BoolOp .And (b :: rest) pos) ρ (.bool k')) : DK X (.BoolOp .And (a :: b :: rest) pos) ρ (.bool (k && k')) := (de_and ha hb).toK rfl
theorem dk_or (ha : DE X a ρ (.bool k)) (hb : k = false → DE X (.BoolOp .Or (b :: rest) pos) ρ (.bool k')) : DK X (.BoolOp .Or (a :: b :: rest) pos) ρ (.bool (k || k')) := (de_or ha hb).toK rfl
theorem dk_not (ha : DE X a ρ (.bool k)) : DK X (.UnaryOp .Not a pos) ρ (.bool (!k)) := fun B =>
  (pe_not (ha B)).imp fun σ H Q ⟨S, R, q⟩ => ⟨S, R, fun v H1 e1 r1 => ⟨k, r1.bl', q _ H1 S (.heap R.sub e1) (.bl _)⟩⟩
theorem dk_if (hc : DB X c ρ k) (ha : k = true → DK X a ρ x) (hb : k = false → DK X b ρ x) : DK X (.IfExp c a b pos) ρ x := fun B =>
  (pe_ifExp (ta := fun σ H Q => k = true ∧ rK B ρ x σ H Q) (tb := fun σ H Q => k = false ∧ rK B ρ x σ H Q) (hc B) ⟨fun pins s σ H Q I q => (ha q.1 B).run pins s σ H Q I q.2⟩ ⟨fun pins s σ H Q I q => (hb q.1 B).run pins s σ H Q I q.2⟩).imp
    fun σ H Q ⟨S, R, q⟩ => ⟨S, R, fun H1 e1 => by
      cases k with
      | true => exact iteT ⟨rfl, S, R.heap e1, fun w H2 S2 t r2 => q w H2 S2 ((Step.heap R.sub e1).trans t) r2⟩
      | false => exact iteF ⟨rfl, S, R.heap e1, fun w H2 S2 t r2 => q w H2 S2 ((Step.heap R.sub e1).trans t) r2⟩⟩

/-! ### argument lists, displays -/
theorem dae_nil : DAe X [] ρ [] := fun B => pa_nil.imp fun σ H Q ⟨S, R, q⟩ => q [] H (Ex.refl _) .nil
theorem dak_nil : DAk X [] ρ [] := fun B => pa_nil.imp fun σ H Q ⟨S, R, q⟩ => q [] H S (.refl R.sub) .nil
theorem dae_cons (ha : DE X e ρ x) (hr : DAe X es ρ xs) (hs : starEach (e :: es) X.env = (false, eval e X.env) :: starEach es X.env) : DAe X (e :: es) ρ (x :: xs) := fun B =>
  (pa_cons (ha B) (hr B) hs).imp fun σ H Q ⟨S, R, q⟩ => ⟨S, R, fun v H1 e1 r1 => ⟨S, R.heap e1, fun vs H2 e2 r2 => q (v :: vs) H2 (e1.trans e2) (.cons (r1.mono e2) r2)⟩⟩
theorem dak_cons (ha : DK X e ρ x) (hr : DAk X es ρ xs) (hs : starEach (e :: es) X.env = (false, eval e X.env) :: starEach es X.env) : DAk X (e :: es) ρ (x :: xs) := fun B =>
  (pa_cons (ha B) (hr B) hs).imp fun σ H Q ⟨S, R, q⟩ => ⟨S, R, fun v H1 S1 t1 r1 => ⟨S1, R.step t1, fun vs H2 S2 t2 r2 => q (v :: vs) H2 S2 (t1.trans t2) (.cons (r1.mono t2.s) r2)⟩⟩
theorem DAk.toE (h : DAk X es ρ xs) : DAe X es ρ xs := fun B => (h B).imp fun σ H Q ⟨S, R, q⟩ => ⟨S, R, fun vs H2 S2 t r => q vs H2 t.h (r.mono t.sub)⟩
/-- [a, b, ..] -/
theorem df_lst (h : DAk X es ρ xs) (hl : xs.length ≤ sizeLine) : DF X (.List es pos) ρ xs := fun B =>
  (pe_lst (h B)).imp fun σ H Q ⟨S, R, q⟩ => ⟨S, R, fun vs H1 S1 t1 r1 => ⟨by rw [r1.length]; exact hl, fun p hp => q p vs (upd H1 p (.lst vs)) S1 (t1.trans (.heap t1.sub (Ex.new hp))) (t1.h.back hp) (t1.sub.back hp) upd_same r1⟩⟩
/-- (a, b, ..) -/
theorem dk_tup {k : Nat} (h : DAk X es ρ xs) (hl : xs.length ≤ sizeLine) : DK X (.Tuple es k pos) ρ (.tuple xs) := fun B =>
  (pe_tup (h B)).imp fun σ H Q ⟨S, R, q⟩ => ⟨S, R, fun vs H1 S1 t1 r1 => ⟨by rw [r1.length]; exact hl, fun p hp => q (.ref p) _ _ (t1.trans (.new (o := .tup vs) t1.sub hp)) (.tup upd_same (r1.mono (Ex.new (t1.sub.back hp))))⟩⟩
end
end Dt

/-! Dt: items, slices, sums of lists, calls of built-ins and of the text's own defs. -/
namespace Dt
open PySem PySem.Spec PyProof.Rows L2
variable {κ : PySem.W.Frag}
section
variable {X : Cx} {e a b c : Expr} {es : List Expr} {ρ : Rho} {x y z : PyData} {xs ys : List PyData} {pos p2 p : Pos} {i j : Int} {n : Str} {k : Nat}

theorem RpA.atI {H : Hp} {vs : List V} (h : RpA X.K H vs xs) {j : Int} (e : L2.atI xs j = some x) : ∃ v, L2.atI vs j = some v ∧ Rp X.K H v x := by
  unfold L2.atI at e ⊢
  rw [h.length]
  cases q : ixN xs.length j with
  | none => rw [q] at e; cases e
  | some m =>
    rw [q] at e
    exact h.get e
/-- xs[j] -/
theorem dk_ixL (ha : DL X a ρ xs) (hb : DE X b ρ (.int j)) (hs : PlainIx b) (h : L2.atI xs j = some x) : DK X (.Subscript a b pos) ρ x := fun B =>
  (pe_ix ix_list (ha B) (hb B) hs).imp fun σ H Q ⟨S, R, q⟩ => ⟨S, R, fun p vs H1 S1 t1 hp r1 => ⟨S1, R.step t1, fun w H2 e2 r2 => by
    obtain ⟨v, h1, h2⟩ := r1.atI h
    exact ⟨p, vs, j, v, rfl, r2.int', .of (e2 _ _ hp), h1, q v H2 S1 (t1.trans (.heap t1.sub e2)) h2⟩⟩⟩
/-- t[j] -/
theorem dk_ixT (ha : DK X a ρ (.tuple xs)) (hb : DE X b ρ (.int j)) (hs : PlainIx b) (h : L2.atI xs j = some x) : DK X (.Subscript a b pos) ρ x := fun B =>
  (pe_ix ix_tup (ha B) (hb B) hs).imp fun σ H Q ⟨S, R, q⟩ => ⟨S, R, fun u H1 S1 t1 r1 => ⟨S1, R.step t1, fun w H2 e2 r2 => by
    cases r1 with
    | tup hp r1 =>
      obtain ⟨v, h1, h2⟩ := r1.atI h
      exact ⟨_, _, j, v, rfl, r2.int', .of (e2 _ _ (t1.sub _ _ hp)), h1, q v H2 S1 (t1.trans (.heap t1.sub e2)) h2⟩⟩⟩
theorem scr_of {H : Hp} {v : V} (h : Rp X.K H v (.dict [(.none, .list xs)])) : ∃ a vs, v = .ref a ∧ SqL X.K H a vs ∧ RpA X.K H vs xs := by
  cases h with
  | scr hp h => exact ⟨_, _, rfl, .inl (.inr ⟨_, hp⟩), h⟩
  | own hp h => exact ⟨_, _, rfl, .inr hp, h⟩
  | dT _ h => cases h
theorem _root_.L2.SqL.ex {κ : PySem.W.Frag} {H H' : Hp} {a : Addr} {vs : List V} (h : SqL κ H a vs) (e : Ex H H') : SqL κ H' a vs := by
  rcases h with h | h
  · exact .inl (e.le.rd _ _ h)
  · exact .inr h
/-- script[j] -/
theorem dk_ixR (ha : DE X a ρ (.dict [(.none, .list xs)])) (hb : DE X b ρ (.int j)) (hs : PlainIx b) (h : L2.atI xs j = some x) (hx : scalD x = true) : DK X (.Subscript a b pos) ρ x := fun B =>
  (pe_ix ix_list (ha B) (hb B) hs).imp fun σ H Q ⟨S, R, q⟩ => ⟨S, R, fun u H1 e1 r1 => ⟨S, R.heap e1, fun w H2 e2 r2 => by
    obtain ⟨p, vs, rfl, hp, r1⟩ := scr_of r1
    obtain ⟨v, h1, h2⟩ := r1.atI h
    exact ⟨_, _, j, v, rfl, r2.int', hp.ex e2, h1, q v H2 S (.heap R.sub (e1.trans e2)) (h2.scal hx)⟩⟩⟩
/-- s[j] -/
theorem dk_ixS {s : Str} {c : Nat} (ha : DE X a ρ (.str s)) (hb : DE X b ρ (.int j)) (hs : PlainIx b) (hl : s.length ≤ sizeLine) (h : L2.atI s.cps.toList j = some c) : DK X (.Subscript a b pos) ρ (.str ⟨#[c]⟩) := fun B =>
  (pe_ix ix_str (ha B) (hb B) hs).imp fun σ H Q ⟨S, R, q⟩ => ⟨S, R, fun u H1 e1 r1 => ⟨S, R.heap e1, fun w H2 e2 r2 =>
    ⟨s, j, c, r1.str', r2.int', hl, h, q _ H2 S (.heap R.sub (e1.trans e2)) (.str _)⟩⟩⟩

/-! ### slices -/
def rO (B : Base κ) (ρ : Rho) (o : Option Int) : TO := fun σ H Q => ∃ S, Rel B ρ σ H S ∧ ∀ H2, Ex H H2 → Q o H2
def DO (X : Cx) (e : Option Expr) (ρ : Rho) (o : Option Int) : Prop := ∀ B : Base X.K, PO X e (rO B ρ o)
theorem _root_.L2.PO.imp {X : Cx} {e : Option Expr} {t t' : TO} (h : PO X e t) (i : ∀ σ H Q, t' σ H Q → t σ H Q) : PO X e t' := ⟨fun pins s σ H Q I q => h.run pins s σ H Q I (i σ H Q q)⟩
theorem do_none : DO X none ρ none := fun B => po_none.imp fun σ H Q ⟨S, R, q⟩ => q H (Ex.refl _)
theorem do_some (h : DE X e ρ (.int i)) : DO X (some e) ρ (some i) := fun B => (po_some (h B)).imp fun σ H Q ⟨S, R, q⟩ => ⟨S, R, fun v H1 e1 r1 => ⟨i, r1.int', q H1 e1⟩⟩
def cutD (xs : List PyData) (lo hi : Option Int) : List PyData := (xs.drop (HT.sIx xs.length 0 lo)).take (HT.sIx xs.length xs.length hi - HT.sIx xs.length 0 lo)
theorem RpA.cut {H : Hp} {vs : List V} (h : RpA X.K H vs xs) (lo hi : Option Int) : RpA X.K H (cutV vs lo hi) (cutD xs lo hi) := by
  unfold cutV cutD
  rw [h.length]
  exact (h.drop _).take _
/-- xs[lo:hi] -/
theorem df_sl {lo hi : Option Expr} {l u : Option Int} (ha : DL X a ρ xs) (hl : DO X lo ρ l) (hu : DO X hi ρ u) : DF X (.Subscript a (.Slice lo hi none p2) pos) ρ (cutD xs l u) := fun B =>
  (pe_slice sl_list (ha B) (hl B) (hu B)).imp fun σ H Q ⟨S, R, q⟩ => ⟨S, R, fun p vs H1 S1 t1 hp r1 => ⟨S1, R.step t1, fun H2 e2 => ⟨S1, (R.step t1).heap e2, fun H3 e3 =>
    ⟨p, vs, rfl, .of (e3 _ _ (e2 _ _ hp)), fun w hw => q w _ (upd H3 w (.lst (cutV vs l u))) S1 (t1.trans (.heap t1.sub ((e2.trans e3).trans (Ex.new hw)))) ((t1.h.trans (e2.trans e3)).back hw) ((t1.sub.trans (e2.trans e3)).back hw) upd_same (r1.cut l u)⟩⟩⟩⟩
/-- t[lo:hi] -/
theorem dk_slT {lo hi : Option Expr} {l u : Option Int} (ha : DK X a ρ (.tuple xs)) (hl : DO X lo ρ l) (hu : DO X hi ρ u) : DK X (.Subscript a (.Slice lo hi none p2) pos) ρ (.tuple (cutD xs l u)) := fun B =>
  (pe_slice sl_tupA (ha B) (hl B) (hu B)).imp fun σ H Q ⟨S, R, q⟩ => ⟨S, R, fun v H1 S1 t1 r1 => ⟨S1, R.step t1, fun H2 e2 => ⟨S1, (R.step t1).heap e2, fun H3 e3 => by
    cases r1 with
    | @tup p vs ds hp r1 =>
      refine ⟨p, vs, rfl, .of (e3 _ _ (e2 _ _ (t1.sub _ _ hp))), fun hw => ?_, fun hw w hn => ?_⟩
      · have e : cutD xs l u = xs := by
          rw [r1.length] at hw
          unfold cutD
          rw [hw.1, hw.2]
          simp
        rw [e] at q
        exact q _ H3 S1 (t1.trans (.heap t1.sub (e2.trans e3))) (.tup hp r1)
      · have t2 : Step S H S1 H3 := t1.trans (.heap t1.sub (e2.trans e3))
        exact q _ _ _ (t2.trans (.new (o := .tup (cutV vs l u)) t2.sub hn)) (.tup upd_same ((r1.cut l u).mono (Ex.new (t2.sub.back hn))))⟩⟩⟩
/-- s[lo:hi] -/
theorem dk_slS {s : Str} {lo hi : Option Expr} {l u : Option Int} (ha : DE X a ρ (.str s)) (hl : DO X lo ρ l) (hu : DO X hi ρ u) (hz : s.length ≤ sizeLine) : DK X (.Subscript a (.Slice lo hi none p2) pos) ρ (.str (cutS s l u)) := fun B =>
  (pe_slice sl_str (ha B) (hl B) (hu B)).imp fun σ H Q ⟨S, R, q⟩ => ⟨S, R, fun v H1 e1 r1 => ⟨S, R.heap e1, fun H2 e2 => ⟨S, R.heap (e1.trans e2), fun H3 e3 =>
    ⟨s, r1.str', hz, q _ H3 S (.heap R.sub (e1.trans (e2.trans e3))) (.str _)⟩⟩⟩⟩
/-- xs[::-1] -/
theorem df_rev {p1 p3 : Pos} (ha : DL X a ρ xs) : DF X (.Subscript a (.Slice none none (some (.UnaryOp .USub (.Constant (.int 1) k p1) p2)) p3) pos) ρ xs.reverse := fun B =>
  (pe_revL (ha B)).imp fun σ H Q ⟨S, R, q⟩ => ⟨S, R, fun p vs H1 S1 t1 hp r1 =>
    ⟨p, vs, rfl, .of hp, fun w hw => q w _ (upd H1 w (.lst vs.reverse)) S1 (t1.trans (.heap t1.sub (Ex.new hw))) (t1.h.back hw) (t1.sub.back hw) upd_same r1.reverse⟩⟩

/-! ### list + list, list * int, tuple + tuple, tuple * int -/
theorem df_cat (ha : DL X a ρ xs) (hb : DL X b ρ ys) (hz : xs.length + ys.length ≤ sizeLine) : DF X (.BinOp a .Add b pos) ρ (xs ++ ys) := fun B =>
  (pe_op op_cat (ha B) (hb B)).imp fun σ H Q ⟨S, R, q⟩ => ⟨S, R, fun p vs H1 S1 t1 hp r1 => ⟨S1, R.step t1, fun p2 vs2 H2 S2 t2 hp2 r2 =>
    ⟨p, p2, vs, vs2, rfl, rfl, t2.h _ _ hp, hp2, by rw [r1.length, r2.length]; exact hz, fun w hw => q w _ (upd H2 w (.lst (vs ++ vs2))) S2 ((t1.trans t2).trans (.heap t2.sub (Ex.new hw))) ((t1.h.trans t2.h).back hw) (t2.sub.back hw) upd_same ((r1.mono t2.s).append r2)⟩⟩⟩
theorem RpA.replicate {H : Hp} {vs : List V} (h : RpA X.K H vs xs) : ∀ m : Nat, RpA X.K H (List.replicate m vs).flatten (List.replicate m xs).flatten
  | 0 => .nil
  | m + 1 => by
    rw [List.replicate_succ, List.replicate_succ, List.flatten_cons, List.flatten_cons]
    exact h.append (RpA.replicate h m)
theorem df_rep (ha : DL X a ρ xs) (hb : DE X b ρ (.int j)) (h1 : -(2 ^ 63) ≤ j) (h2 : j < 2 ^ 63) (hz : xs.length * j.toNat ≤ sizeLine) : DF X (.BinOp a .Mult b pos) ρ (List.replicate j.toNat xs).flatten := fun B =>
  (pe_op op_rep (ha B) (hb B)).imp fun σ H Q ⟨S, R, q⟩ => ⟨S, R, fun p vs H1 S1 t1 hp r1 => ⟨S1, R.step t1, fun u H2 e2 r2 =>
    ⟨p, j, vs, rfl, r2.int', e2 _ _ hp, h1, h2, by rw [r1.length]; exact hz, fun w hw => q w _ (upd H2 w (.lst (List.replicate j.toNat vs).flatten)) S1 (t1.trans (.heap t1.sub (e2.trans (Ex.new hw)))) ((t1.h.trans e2).back hw) ((t1.sub.trans e2).back hw) upd_same (r1.replicate _)⟩⟩⟩
theorem dk_repT (ha : DK X a ρ (.tuple xs)) (hb : DE X b ρ (.int j)) (h0 : xs ≠ []) (h1 : 2 ≤ j) (h2 : j ≤ 1000) (hz : xs.length ≤ 1000) : DK X (.BinOp a .Mult b pos) ρ (.tuple (List.replicate j.toNat xs).flatten) := fun B =>
  (pe_op op_repT (ha B) (hb B)).imp fun σ H Q ⟨S, R, q⟩ => ⟨S, R, fun v H1 S1 t1 r1 => ⟨S1, R.step t1, fun u H2 e2 r2 => by
    cases r1 with
    | @tup p vs ds hp r1 =>
      have hl := r1.length
      refine ⟨p, j, vs, rfl, r2.int', .of (e2 _ _ (t1.sub _ _ hp)), fun z => h0 (by subst z; cases r1; rfl), h1, h2, by omega, fun w hw => ?_⟩
      have t2 : Step S H S1 H2 := t1.trans (.heap t1.sub e2)
      exact q _ _ _ (t2.trans (.new (o := .tup (List.replicate j.toNat vs).flatten) t2.sub hw)) (.tup upd_same ((r1.replicate _).mono (Ex.new (t2.sub.back hw))))⟩⟩
theorem dk_catT (ha : DK X a ρ (.tuple xs)) (hb : DK X b ρ (.tuple ys)) (hz : xs.length + ys.length ≤ sizeLine) : DK X (.BinOp a .Add b pos) ρ (.tuple (xs ++ ys)) := fun B =>
  (pe_op op_catA (ha B) (hb B)).imp fun σ H Q ⟨S, R, q⟩ => ⟨S, R, fun v H1 S1 t1 r1 => ⟨S1, R.step t1, fun u H2 S2 t2 r2 => by
    cases r1 with
    | @tup p vs ds hp r1 =>
      cases r2 with
      | @tup p' vs' ds' hp' r2 =>
        have hl := r1.length
        have hl2 := r2.length
        refine ⟨p, p', vs, vs', rfl, rfl, .of (t2.h _ _ (t1.sub _ _ hp)), .of (t2.sub _ _ hp'), by omega, fun z => ?_, fun z z' => ?_, fun z z' w hw => ?_⟩
        · subst z
          cases r1
          exact q _ _ S2 (t1.trans t2) (.tup hp' r2)
        · subst z'
          cases r2
          rw [List.append_nil] at q
          exact q _ _ S2 (t1.trans t2) (.tup (t2.s _ _ hp) (r1.mono t2.s))
        · have t3 : Step S H S2 H2 := t1.trans t2
          exact q _ _ _ (t3.trans (.new (o := .tup (vs ++ vs')) t3.sub hw)) (.tup upd_same (((r1.mono t2.s).append r2).mono (Ex.new (t3.sub.back hw))))⟩⟩

/-! ### calls of built-ins -/
structure Blt (X : Cx) (n : Str) (v : Value) : Prop where
  gl : Gl X n
  mg : X.mg n = none
  bt : bootBuiltins n = some v
  nn : n ≠ "__name__"
  nd : (n == ("__debug__" : Str)) = false
theorem dk_callB {id : String} {r : List V → Hp → VK → Prop} (hc : CallR X (.builtin id) r) (g : Blt X n (.builtin id)) (ha : DAe X (e :: es) ρ xs) (he : starEach (e :: es) X.env = (false, eval e X.env) :: starEach es X.env) (hpl : (backTo pos (starEach es X.env)).any (·.1) = false)
    (hs : scalD z = true) (hr : ∀ vs H (Q : VK), RpA X.K H vs xs → (∀ w, Rp X.K H w z → Q w H) → r vs H Q) : DK X (.Call (.Name n p) (e :: es) [] pos) ρ z := fun B =>
  (pe_callB hc g.gl g.mg g.bt (ha B) g.nn g.nd he hpl).imp fun σ H Q ⟨S, R, q⟩ => ⟨S, R, fun vs H1 e1 r1 => hr vs H1 Q r1 fun w rw' => q w H1 S (.heap R.sub e1) (rw'.scal hs)⟩
theorem dk_callTy {T : String} {r : List V → Hp → VK → Prop} (hc : CallR X (.type T) r) (g : Blt X n (.type T)) (ha : DAe X (e :: es) ρ xs) (he : starEach (e :: es) X.env = (false, eval e X.env) :: starEach es X.env) (hpl : (backTo pos (starEach es X.env)).any (·.1) = false)
    (hs : scalD z = true) (hr : ∀ vs H (Q : VK), RpA X.K H vs xs → (∀ w, Rp X.K H w z → Q w H) → r vs H Q) : DK X (.Call (.Name n p) (e :: es) [] pos) ρ z := fun B =>
  (pe_callTy hc g.gl g.mg g.bt (ha B) g.nn g.nd he hpl).imp fun σ H Q ⟨S, R, q⟩ => ⟨S, R, fun vs H1 e1 r1 => hr vs H1 Q r1 fun w rw' => q w H1 S (.heap R.sub e1) (rw'.scal hs)⟩
theorem RpA.one' {H : Hp} {vs : List V} (h : RpA X.K H vs [x]) : ∃ v, vs = [v] ∧ Rp X.K H v x := by
  cases h with
  | cons h q => cases q; exact ⟨_, rfl, h⟩
theorem RpA.two' {H : Hp} {vs : List V} (h : RpA X.K H vs [x, y]) : ∃ v w, vs = [v, w] ∧ Rp X.K H v x ∧ Rp X.K H w y := by
  cases h with
  | cons h q =>
    obtain ⟨w, rfl, h2⟩ := q.one'
    exact ⟨_, w, rfl, h, h2⟩
/-- what starEach asks of a call's arguments -/
structure Arg1 (X : Cx) (e : Expr) (es : List Expr) (pos : Pos) : Prop where
  st : starEach (e :: es) X.env = (false, eval e X.env) :: starEach es X.env
  pl : (backTo pos (starEach es X.env)).any (·.1) = false
theorem dae1 (ha : DE X e ρ x) (g : Arg1 X e [] pos) : DAe X [e] ρ [x] := dae_cons ha dae_nil g.st
/-- len -/
theorem dk_lenL (g : Blt X n (.builtin "len")) (ha : DE X e ρ (.list xs)) (s : Arg1 X e [] pos) : DK X (.Call (.Name n p) [e] [] pos) ρ (.int xs.length) :=
  dk_callB call_len_seq g (dae1 ha s) s.st s.pl rfl fun vs H Q r q => by
    obtain ⟨v, rfl, h⟩ := r.one'
    cases h with
    | lst hp h => exact ⟨_, _, rfl, .inl (.of hp), by rw [h.length]; exact q _ (.int _)⟩
theorem dk_lenT (g : Blt X n (.builtin "len")) (ha : DE X e ρ (.tuple xs)) (s : Arg1 X e [] pos) : DK X (.Call (.Name n p) [e] [] pos) ρ (.int xs.length) :=
  dk_callB call_len_seq g (dae1 ha s) s.st s.pl rfl fun vs H Q r q => by
    obtain ⟨v, rfl, h⟩ := r.one'
    cases h with
    | tup hp h => exact ⟨_, _, rfl, .inr (.of hp), by rw [h.length]; exact q _ (.int _)⟩
theorem dk_lenR (g : Blt X n (.builtin "len")) (ha : DE X e ρ (.dict [(.none, .list xs)])) (s : Arg1 X e [] pos) : DK X (.Call (.Name n p) [e] [] pos) ρ (.int xs.length) :=
  dk_callB call_len_seq g (dae1 ha s) s.st s.pl rfl fun vs H Q r q => by
    obtain ⟨v, rfl, h⟩ := r.one'
    obtain ⟨a, vs, rfl, hp, h⟩ := scr_of h
    exact ⟨_, _, rfl, .inl hp, by rw [h.length]; exact q _ (.int _)⟩
theorem dk_lenS {s : Str} (g : Blt X n (.builtin "len")) (ha : DE X e ρ (.str s)) (t : Arg1 X e [] pos) (hz : s.length ≤ sizeLine) : DK X (.Call (.Name n p) [e] [] pos) ρ (.int s.length) :=
  dk_callB call_len_str g (dae1 ha t) t.st t.pl rfl fun vs H Q r q => by
    obtain ⟨v, rfl, h⟩ := r.one'
    exact ⟨s, by rw [h.str'], hz, q _ (.int _)⟩
/-- tuple(list), tuple(tuple), list(list), list(tuple) -/
theorem dk_tupL (g : Blt X n (.type "tuple")) (ha : DL X e ρ xs) (s : Arg1 X e [] pos) : DK X (.Call (.Name n p) [e] [] pos) ρ (.tuple xs) := fun B =>
  (pe_callTy call_tuple_of g.gl g.mg g.bt (pa_cons (ha B) pa_nil s.st) g.nn g.nd s.st s.pl).imp fun σ H Q ⟨S, R, q⟩ => ⟨S, R, fun a vs H1 S1 t1 ha r1 =>
    ⟨a, vs, rfl, .inl ⟨.of ha, fun l hl => q _ _ _ (t1.trans (.new (o := .tup vs) t1.sub hl)) (.tup upd_same (r1.mono (Ex.new (t1.sub.back hl))))⟩⟩⟩
theorem df_listL (g : Blt X n (.type "list")) (ha : DL X e ρ xs) (s : Arg1 X e [] pos) : DF X (.Call (.Name n p) [e] [] pos) ρ xs := fun B =>
  (pe_callTy call_list_of g.gl g.mg g.bt (pa_cons (ha B) pa_nil s.st) g.nn g.nd s.st s.pl).imp fun σ H Q ⟨S, R, q⟩ => ⟨S, R, fun a vs H1 S1 t1 ha r1 =>
    ⟨a, vs, rfl, .inl (.of ha), fun l hl => q l _ _ S1 (t1.trans (.heap t1.sub (Ex.new hl))) (t1.h.back hl) (t1.sub.back hl) upd_same r1⟩⟩
theorem df_listT (g : Blt X n (.type "list")) (ha : DK X e ρ (.tuple xs)) (s : Arg1 X e [] pos) : DF X (.Call (.Name n p) [e] [] pos) ρ xs := fun B =>
  (pe_callTy call_list_of g.gl g.mg g.bt (pa_cons (ha B) pa_nil s.st) g.nn g.nd s.st s.pl).imp fun σ H Q ⟨S, R, q⟩ => ⟨S, R, fun v H1 S1 t1 r1 => by
    cases r1 with
    | tup hp r1 => exact ⟨_, _, rfl, .inr (.of (t1.sub _ _ hp)), fun l hl => q l _ _ S1 (t1.trans (.heap t1.sub (Ex.new hl))) (t1.h.back hl) (t1.sub.back hl) upd_same r1⟩⟩
/-- sum of ints, all of truths -/
theorem RpA.ints {H : Hp} : ∀ {ns : List Int} {vs : List V}, RpA X.K H vs (ns.map .int) → vs = ns.map V.int
  | [], _, .nil => rfl
  | n :: ns, _, .cons h q => by rw [h.int', RpA.ints q]; rfl
theorem RpA.bls {H : Hp} : ∀ {ns : List Bool} {vs : List V}, RpA X.K H vs (ns.map .bool) → vs = ns.map V.bl
  | [], _, .nil => rfl
  | n :: ns, _, .cons h q => by rw [h.bl', RpA.bls q]; rfl
theorem dk_sum {ns : List Int} (hc : X.calm = true) (g : Blt X n (.builtin "sum")) (ha : DE X e ρ (.list (ns.map .int))) (s : Arg1 X e [] pos) : DK X (.Call (.Name n p) [e] [] pos) ρ (.int ns.sum) :=
  dk_callB (cr_sum hc) g (dae1 ha s) s.st s.pl rfl fun vs H Q r q => by
    obtain ⟨v, rfl, h⟩ := r.one'
    cases h with
    | lst hp h =>
      rw [h.ints] at hp
      exact ⟨_, ns, rfl, .of hp, q _ (.int _)⟩
theorem dk_all {ns : List Bool} (hc : X.calm = true) (g : Blt X n (.builtin "all")) (ha : DE X e ρ (.list (ns.map .bool))) (s : Arg1 X e [] pos) : DK X (.Call (.Name n p) [e] [] pos) ρ (.bool (ns.all id)) :=
  dk_callB (cr_all hc) g (dae1 ha s) s.st s.pl rfl fun vs H Q r q => by
    obtain ⟨v, rfl, h⟩ := r.one'
    cases h with
    | lst hp h =>
      rw [h.bls] at hp
      exact ⟨_, ns, rfl, .of hp, q _ (.bl _)⟩
/-- int(truth), int(int), str(int) -/
theorem dk_intB {t : Bool} (g : Blt X n (.type "int")) (ha : DE X e ρ (.bool t)) (s : Arg1 X e [] pos) : DK X (.Call (.Name n p) [e] [] pos) ρ (.int (if t then 1 else 0)) :=
  dk_callTy call_int1 g (dae1 ha s) s.st s.pl rfl fun vs H Q r q => by
    obtain ⟨v, rfl, h⟩ := r.one'
    exact .inr ⟨t, by rw [h.bl'], q _ (.int _)⟩
theorem dk_strI (g : Blt X n (.type "str")) (ha : DE X e ρ (.int i)) (s : Arg1 X e [] pos) (hz : i.natAbs.log2 < 1920) : DK X (.Call (.Name n p) [e] [] pos) ρ (.str (toString i)) :=
  dk_callTy call_str_int g (dae1 ha s) s.st s.pl rfl fun vs H Q r q => by
    obtain ⟨v, rfl, h⟩ := r.one'
    exact ⟨i, by rw [h.int'], hz, q _ (.str _)⟩

/-! ### what a def of the text gives: a promise on data -/
inductive Rs where
  /-- data -/
  | k (x : PyData)
  /-- a new list -/
  | f (xs : List PyData)
  /-- an exception of the class at C -/
  | raise (C : Addr)
  /-- data that is new, whatever it holds -/
  | n (x : PyData)
  /-- a new pair of two new lists -/
  | p (xs ys : List PyData)
def ResB (B : Base κ) (H' : Hp) (v : V) : Rs → Prop
  | .k x => ∃ S', Step B.S B.H S' H' ∧ Rp κ S' v x
  | .f xs => ∃ S' p vs, Step B.S B.H S' H' ∧ v = .ref p ∧ B.H p = none ∧ S' p = none ∧ H' p = some (.lst vs) ∧ RpA κ S' vs xs
  | .raise _ => False
  | .n x => ∃ S', Step B.S B.H S' H' ∧ Rp κ (nwP B.H S') v x
  | .p xs ys => ∃ S' e, Step B.S B.H S' H' ∧ v = .ref e.1 ∧ OwnP B S' H' e (xs, ys) ∧ e.2.1 ≠ e.2.2
def spD (κ : PySem.W.Frag) (φ : List PyData → Rs → Prop) (m : Nat) : Sp := fun vs H Q E => ∃ S xs o, Ex S H ∧ RpA κ S vs xs ∧ φ xs o ∧ xs.length = m ∧ (∀ v H', ResB (κ := κ) ⟨S, H⟩ H' v o → Q v H') ∧ ∀ C, o = .raise C → ∀ H', Ex H H' → E (.ref C) none H'
/-- a def of the text that keeps a promise on data -/
structure Def (X : Cx) (n : Str) (m : Nat) (φ : List PyData → Rs → Prop) : Prop where
  ok : ∃ f fd ps k, FnOk X.prog X.w X.K X.mg X.base (L2.CX X.prog X.w) k f fd ps (spD X.K φ m) ∧ Room k X.A ∧ X.mg n = some (.ref f) ∧ PySem.W.keepIn X.K (.ref f) = true ∧ Binds X.K fd ps []
  gl : Gl X n
  nd : (n == ("__debug__" : Str)) = false
variable {φ : List PyData → Rs → Prop} {m : Nat}
theorem de_call (d : Def X n m φ) (ha : DAe X (e :: es) ρ xs) (s : Arg1 X e es pos) (hm : xs.length = m) (h : φ xs (.k x)) : DE X (.Call (.Name n p) (e :: es) [] pos) ρ x := fun B => by
  obtain ⟨f, fd, ps, k, F, hr, hg, hk, hb⟩ := d.ok
  refine (pe_call F hr d.gl hg hk hb .nil passL (ha B) d.nd s.st s.pl).imp fun σ H Q ⟨S, R, q⟩ => ⟨S, R, fun vs H1 e1 r1 => ?_⟩
  show spD X.K φ m (vs ++ []) H1 Q E0
  rw [List.append_nil]
  refine ⟨H1, xs, _, Ex.refl _, r1, h, hm, fun v H2 ⟨S', t2, r2⟩ => q v H2 (e1.trans t2.h) (r2.mono t2.sub), fun C hC => by cases hC⟩
theorem dk_call (d : Def X n m φ) (ha : DAk X (e :: es) ρ xs) (s : Arg1 X e es pos) (hm : xs.length = m) (h : φ xs (.k x)) : DK X (.Call (.Name n p) (e :: es) [] pos) ρ x := fun B => by
  obtain ⟨f, fd, ps, k, F, hr, hg, hk, hb⟩ := d.ok
  refine (pe_call F hr d.gl hg hk hb .nil passL (ha B) d.nd s.st s.pl).imp fun σ H Q ⟨S, R, q⟩ => ⟨S, R, fun vs H1 S1 t1 r1 => ?_⟩
  show spD X.K φ m (vs ++ []) H1 Q E0
  rw [List.append_nil]
  refine ⟨S1, xs, _, t1.sub, r1, h, hm, fun v H2 ⟨S', t2, r2⟩ => q v H2 S' (t1.trans t2) r2, fun C hC => by cases hC⟩
theorem df_call (d : Def X n m φ) (ha : DAk X (e :: es) ρ xs) (s : Arg1 X e es pos) (hm : xs.length = m) (h : φ xs (.f ys)) : DF X (.Call (.Name n p) (e :: es) [] pos) ρ ys := fun B => by
  obtain ⟨f, fd, ps, k, F, hr, hg, hk, hb⟩ := d.ok
  refine (pe_call F hr d.gl hg hk hb .nil passL (ha B) d.nd s.st s.pl).imp fun σ H Q ⟨S, R, q⟩ => ⟨S, R, fun vs H1 S1 t1 r1 => ?_⟩
  show spD X.K φ m (vs ++ []) H1 Q E0
  rw [List.append_nil]
  refine ⟨S1, xs, _, t1.sub, r1, h, hm, fun v H2 ⟨S', w, vs2, t2, ev, hp, hs, hv, r2⟩ => ?_, fun C hC => by cases hC⟩
  subst ev
  exact q w vs2 H2 S' (t1.trans t2) (t1.h.back hp) hs hv r2
/-- the arguments only read, the new list's items need no heap -/
theorem df_calls (d : Def X n m φ) (ha : DAe X (e :: es) ρ xs) (s : Arg1 X e es pos) (hm : xs.length = m) (h : φ xs (.f ys)) (hs : ∀ y ∈ ys, scalD y = true) : DF X (.Call (.Name n p) (e :: es) [] pos) ρ ys := fun B => by
  obtain ⟨f, fd, ps, k, F, hr, hg, hk, hb⟩ := d.ok
  refine (pe_call F hr d.gl hg hk hb .nil passL (ha B) d.nd s.st s.pl).imp fun σ H Q ⟨S, R, q⟩ => ⟨S, R, fun vs H1 e1 r1 => ?_⟩
  show spD X.K φ m (vs ++ []) H1 Q E0
  rw [List.append_nil]
  refine ⟨H1, xs, _, Ex.refl _, r1, h, hm, fun v H2 ⟨S', w, vs2, t2, ev, hp, hs', hv, r2⟩ => ?_, fun C hC => by cases hC⟩
  subst ev
  exact q w vs2 H2 S (.heap R.sub (e1.trans t2.h)) (e1.back hp) ((R.sub.trans e1).back hp) hv (r2.scal hs)
/-- a call that raises -/
def DR (X : Cx) (W : WX) (e : Expr) (ρ : Rho) (C : Addr) : Prop := ∀ B : Base X.K, PE X e (fun σ H _ => ∃ S, Rel B ρ σ H S ∧ ∀ H2, Ex H H2 → W (.ref C) none σ H2)
theorem dr_call {W : WX} {C : Addr} (tk : Takes X W) (d : Def X n m φ) (ha : DAe X (e :: es) ρ xs) (s : Arg1 X e es pos) (hm : xs.length = m) (h : φ xs (.raise C)) : DR X W (.Call (.Name n p) (e :: es) [] pos) ρ C := fun B => by
  obtain ⟨f, fd, ps, k, F, hr, hg, hk, hb⟩ := d.ok
  refine (pe_callS F hr d.gl hg hk hb (fun σ => passAt tk σ) (ha B) d.nd s.st s.pl).imp fun σ H Q ⟨S, R, q⟩ => ⟨S, R, fun vs H1 e1 r1 => ?_⟩
  refine ⟨H1, xs, _, Ex.refl _, r1, h, hm, fun v H2 hr => hr.elim, fun C' hC H2 e2 => ?_⟩
  cases hC
  exact q H2 (e1.trans e2)
end
end Dt

/-! Dt: what is walked, statements, loops, comprehensions, a def. -/
namespace Dt
open PySem PySem.Spec PyProof.Rows L2
variable {κ : PySem.W.Frag}

/-! ### ends -/
structure En where
  nx : Rho → Prop
  rt : Rs → Prop
  bk : Rho → Prop := fun _ => False
  ct : Rho → Prop := fun _ => False
  ex : Addr → Prop := fun _ => False
structure Acc (B : Base κ) (W : WX) (K : En) (D : Ends) : Prop where
  nx : ∀ ρ σ H S, Rel B ρ σ H S → K.nx ρ → D.nx σ H
  bk : ∀ ρ σ H S, Rel B ρ σ H S → K.bk ρ → D.bk σ H
  ct : ∀ ρ σ H S, Rel B ρ σ H S → K.ct ρ → D.ct σ H
  rt : ∀ o v H, ResB B H v o → K.rt o → D.rt v H
  ex : ∀ C σ H S, Step B.S B.H S H → K.ex C → W (.ref C) none σ H
def rS (B : Base κ) (W : WX) (ρ : Rho) (K : En) : TS := fun D σ H => (∃ S, Rel B ρ σ H S) ∧ Acc B W K D
def DS (X : Cx) (W : WX) (st : Stmt) (ρ : Rho) (K : En) : Prop := ∀ B : Base X.K, PS X st (rS B W ρ K)
def DSs (X : Cx) (W : WX) (st : List Stmt) (ρ : Rho) (K : En) : Prop := ∀ B : Base X.K, PSs X st (rS B W ρ K)
/-- whatever block it is: the reading that takes every case -/
def uSs (X : Cx) (W : WX) (st : List Stmt) : TS := fun D σ H => ∃ (B : Base X.K), ∃ ρ K, DSs X W st ρ K ∧ rS B W ρ K D σ H
theorem pss_u {X : Cx} {W : WX} {st : List Stmt} : PSs X st (uSs X W st) := ⟨fun pins s σ H D I ⟨B, ρ, K, d, q⟩ => (d B).run pins s σ H D I q⟩
def uB (X : Cx) (c : Expr) : TT := fun σ H Q => ∃ (B : Base X.K), ∃ ρ b, DB X c ρ b ∧ rB B ρ b σ H Q
theorem pt_u {X : Cx} {c : Expr} : PT X c (uB X c) := ⟨fun pins s σ H Q I ⟨B, ρ, b, d, q⟩ => (d B).run pins s σ H Q I q⟩

section
variable {X : Cx} {W : WX} {e a b c : Expr} {es : List Expr} {ρ ρ' : Rho} {x y z : PyData} {xs ys : List PyData} {pos p2 p : Pos} {i j : Int} {n : Str} {k : Bool} {st : Stmt} {rest body orelse : List Stmt} {K : En}

theorem Step.unbase {B : Base κ} {S0 S' H : Hp} (t : Step S0 B.H S' H) (e : Ex B.S S0) (hn : ∀ a o, S0 a = some o → B.S a = none → NT B.H a) : Step B.S B.H S' H := ⟨t.h, e.trans t.s, t.sub, fun a o h1 h2 => by
  cases q : S0 a with
  | none => exact t.nw a o h1 q
  | some u => exact hn a u q h2⟩
theorem ResB.unbase {B : Base κ} {S0 H : Hp} {v : V} {o : Rs} (r : ResB (κ := κ) ⟨S0, B.H⟩ H v o) (e : Ex B.S S0) (hn : ∀ a o, S0 a = some o → B.S a = none → NT B.H a) : ResB B H v o := by
  have nw : ∀ {S' : Hp}, (∀ a o, S' a = some o → S0 a = none → NT B.H a) → ∀ a o, S' a = some o → B.S a = none → NT B.H a := fun {S'} h a o h1 h2 => by
    cases q : S0 a with
    | none => exact h a o h1 q
    | some u => exact hn a u q h2
  cases o with
  | k x => obtain ⟨S', t, r⟩ := r; exact ⟨S', ⟨t.h, e.trans t.s, t.sub, nw t.nw⟩, r⟩
  | f xs => obtain ⟨S', p, vs, t, r⟩ := r; exact ⟨S', p, vs, ⟨t.h, e.trans t.s, t.sub, nw t.nw⟩, r⟩
  | raise C => exact r.elim
  | n x => obtain ⟨S', t, r⟩ := r; exact ⟨S', ⟨t.h, e.trans t.s, t.sub, nw t.nw⟩, r⟩
  | p xs ys => obtain ⟨S', p, t, r⟩ := r; exact ⟨S', p, ⟨t.h, e.trans t.s, t.sub, nw t.nw⟩, r⟩
theorem Rel.base {B : Base κ} {ρ : Rho} {σ : L2.St} {H S : Hp} (R : Rel B ρ σ H S) : Step B.S B.H S H := ⟨R.exH, R.exS, R.sub, R.nw⟩
/-! ### blocks -/
theorem dss_nil (h : K.nx ρ) : DSs X W [] ρ K := fun B => pss_nil.imp fun D σ H ⟨⟨S, R⟩, A⟩ => A.nx ρ σ H S R h
theorem dss_cons (h : DS X W st ρ { K with nx := fun ρ' => DSs X W rest ρ' K }) : DSs X W (st :: rest) ρ K := fun B =>
  (pss_cons (u := uSs X W rest) (h B) pss_u).imp fun D σ H ⟨SR, A⟩ => ⟨SR, ⟨fun ρ' σ' H' S' R' d => ⟨B, ρ', K, d, ⟨S', R'⟩, A⟩, A.bk, A.ct, A.rt, A.ex⟩⟩
theorem dss_one (h : DS X W st ρ K) : DSs X W [st] ρ K := fun B => pss_one (h B)
theorem DSs.imp {K' : En} (h : DSs X W body ρ K) (n : ∀ ρ, K.nx ρ → K'.nx ρ) (r : ∀ o, K.rt o → K'.rt o) (b : ∀ ρ, K.bk ρ → K'.bk ρ) (c : ∀ ρ, K.ct ρ → K'.ct ρ) (x : ∀ C, K.ex C → K'.ex C) : DSs X W body ρ K' := fun B =>
  (h B).imp fun D σ H ⟨SR, A⟩ => ⟨SR, ⟨fun ρ σ H S R q => A.nx ρ σ H S R (n ρ q), fun ρ σ H S R q => A.bk ρ σ H S R (b ρ q), fun ρ σ H S R q => A.ct ρ σ H S R (c ρ q), fun o v H q z => A.rt o v H q (r o z), fun C σ H S e z => A.ex C σ H S e (x C z)⟩⟩
/-- own list slots may go over into S, slots be forgotten, ahead of any block -/
theorem dss_freeze (i : Nat) (hi : ρ[i]? = some (some (.l xs))) (h : DSs X W body (ρ.set i (some (.d (.list xs)))) K) : DSs X W body ρ K := fun B =>
  (h B).imp fun D σ H ⟨⟨S, R⟩, A⟩ => by
    obtain ⟨S', _, R'⟩ := R.freeze hi
    exact ⟨⟨S', R'⟩, A⟩
theorem dss_forget (i : Nat) (h : DSs X W body (ρ.set i none) K) : DSs X W body ρ K := fun B => (h B).imp fun D σ H ⟨⟨S, R⟩, A⟩ => ⟨⟨S, R.forget i⟩, A⟩

/-! ### small statements -/
theorem ds_set (i : Nat) {pn : Pos} (hN : X.N.Nodup) (hi : X.N[i]? = some n) (hx : Loc X.env.scope n) (hf : X.fn n = true ∨ X.env.scope.names.lookup n = some .local) (hs : swapsWith e (some (.Name n pn)) pos.line X.env = pure false) (he : DK X e ρ x) (h : K.nx (ρ.set i (some (.d x)))) :
    DS X W (.Assign [.Name n pn] e pos) ρ K := fun B =>
  (ps_set hN hi hx (he B) hs hf).imp fun D σ H ⟨⟨S, R⟩, A⟩ => ⟨S, R, fun v H2 S2 t r1 => A.nx _ _ H2 S2 ((R.step t).setD i r1) h⟩
theorem ds_setF (i : Nat) {pn : Pos} (hN : X.N.Nodup) (hi : X.N[i]? = some n) (hx : Loc X.env.scope n) (hf : X.fn n = true ∨ X.env.scope.names.lookup n = some .local) (hs : swapsWith e (some (.Name n pn)) pos.line X.env = pure false) (he : DF X e ρ xs) (h : K.nx (ρ.set i (some (.l xs)))) :
    DS X W (.Assign [.Name n pn] e pos) ρ K := fun B =>
  (ps_set hN hi hx (he B) hs hf).imp fun D σ H ⟨⟨S, R⟩, A⟩ => ⟨S, R, fun p vs H2 S2 t hp hs hv r1 => A.nx _ _ H2 S2 (R.setO t.h (R.step t) i (s := .l xs) (fun q hq => by cases hq; exact hp) ⟨p, vs, rfl, R.exH.back hp, hs, hv, r1⟩) h⟩
theorem ds_ret (he : DK X e ρ x) (h : K.rt (.k x)) : DS X W (.Return (some e) pos) ρ K := fun B =>
  (ps_ret (he B)).imp fun D σ H ⟨⟨S, R⟩, A⟩ => ⟨S, R, fun v H2 S2 t r1 => A.rt (.k x) v H2 ⟨S2, (R.step t).base, r1⟩ h⟩
theorem ds_retF (he : DF X e ρ xs) (h : K.rt (.f xs)) : DS X W (.Return (some e) pos) ρ K := fun B =>
  (ps_ret (he B)).imp fun D σ H ⟨⟨S, R⟩, A⟩ => ⟨S, R, fun p vs H2 S2 t hp hs hv r1 => A.rt (.f xs) _ H2 ⟨S2, p, vs, (R.step t).base, rfl, R.exH.back hp, hs, hv, r1⟩ h⟩
/-- return of an own list by its name -/
theorem ds_retO (i : Nat) {pn : Pos} (hN : X.N[i]? = some n) (hv : Vis X.env.scope n) (hd : (n == ("__debug__" : Str)) = false) (hcd : (n == ("__classdict__" : Str)) = false) (hi : ρ[i]? = some (some (.l xs))) (h : K.rt (.f xs)) : DS X W (.Return (some (.Name n pn)) pos) ρ K := fun B =>
  (ps_ret (pe_var hN hv hd hcd)).imp fun D σ H ⟨⟨S, R⟩, A⟩ => by
    obtain ⟨v, h1, p, vs, rfl, h2, h3, h4, h5⟩ := R.sl i _ hi
    exact ⟨_, h1, A.rt (.f xs) _ H ⟨S, p, vs, R.base, rfl, h2, h3, h4, h5⟩ h⟩
theorem ds_retN (h : K.rt (.k .none)) : DS X W (.Return none pos) ρ K := fun B => ps_retN.imp fun D σ H ⟨⟨S, R⟩, A⟩ => A.rt (.k .none) _ H ⟨S, R.base, .non⟩ h
theorem ds_expr (hs : swapsWith e none pos.line X.env = pure false) (he : DE X e ρ x) (h : K.nx ρ) : DS X W (.Expr e pos) ρ K := fun B =>
  (ps_expr (he B) hs).imp fun D σ H ⟨⟨S, R⟩, A⟩ => ⟨S, R, fun v H2 e1 r1 => A.nx ρ σ H2 S (R.heap e1) h⟩
theorem ds_exprR {C : Addr} (hs : swapsWith e none pos.line X.env = pure false) (he : DR X W e ρ C) (h : K.ex C) : DS X W (.Expr e pos) ρ K := fun B =>
  (ps_expr (he B) hs).imp fun D σ H ⟨⟨S, R⟩, A⟩ => ⟨S, R, fun H2 e1 => A.ex C σ H2 S (R.heap e1).base h⟩
theorem ds_retR {C : Addr} (he : DR X W e ρ C) (h : K.ex C) : DS X W (.Return (some e) pos) ρ K := fun B =>
  (ps_ret (he B)).imp fun D σ H ⟨⟨S, R⟩, A⟩ => ⟨S, R, fun H2 e1 => A.ex C σ H2 S (R.heap e1).base h⟩
theorem ds_setR (i : Nat) {pn : Pos} {C : Addr} (hN : X.N.Nodup) (hi : X.N[i]? = some n) (hx : Loc X.env.scope n) (hf : X.fn n = true ∨ X.env.scope.names.lookup n = some .local) (hs : swapsWith e (some (.Name n pn)) pos.line X.env = pure false) (he : DR X W e ρ C) (h : K.ex C) :
    DS X W (.Assign [.Name n pn] e pos) ρ K := fun B =>
  (ps_set hN hi hx (he B) hs hf).imp fun D σ H ⟨⟨S, R⟩, A⟩ => ⟨S, R, fun H2 e1 => A.ex C σ H2 S (R.heap e1).base h⟩
theorem ds_if (hc : DB X c ρ k) (h1 : k = true → DSs X W body ρ K) (h2 : k = false → DSs X W orelse ρ K) : DS X W (.If c body orelse pos) ρ K := fun B =>
  (ps_if (hc B) (pss_u (W := W)) (pss_u (W := W))).imp fun D σ H ⟨⟨S, R⟩, A⟩ => ⟨S, R, fun H1 e1 => by
    cases k with
    | true => exact iteT ⟨B, ρ, K, h1 rfl, ⟨S, R.heap e1⟩, A⟩
    | false => exact iteF ⟨B, ρ, K, h2 rfl, ⟨S, R.heap e1⟩, A⟩⟩
theorem ds_break (h : K.bk ρ) : DS X W (.Break pos) ρ K := fun B => ps_break.imp fun D σ H ⟨⟨S, R⟩, A⟩ => A.bk ρ σ H S R h
theorem ds_pass (h : K.nx ρ) : DS X W (.Pass pos) ρ K := fun B => ps_pass.imp fun D σ H ⟨⟨S, R⟩, A⟩ => A.nx ρ σ H S R h

/-! ### own lists changed -/
/-- name.append(e) -/
theorem ds_app (i : Nat) {pn ap cp : Pos} (hN : X.N[i]? = some n) (hv : Vis X.env.scope n) (hd : (n == ("__debug__" : Str)) = false) (hcd : (n == ("__classdict__" : Str)) = false)
    (hbase : attributeBase (.Name n pn) "append" X.env (eval (.Name n pn) X.env) = eval (.Name n pn) X.env)
    (hfew : ((backTo cp (starEach (e :: []) X.env)).all (fun x => !x.1) && (backToKw cp (keywordEach [] X.env)).all (fun x => x.1.isSome)
      && decide ((e :: []).length + ([] : List Keyword).length + (if ([] : List Keyword).isEmpty then 0 else 1) < 30)) = true)
    (hline : (ap.endLine == cp.line) = true) (g : Arg1 X e [] cp) (hs : swapsWith (.Call (.Attribute (.Name n pn) "append" ap) [e] [] cp) none pos.line X.env = pure false)
    (hi : ρ[i]? = some (some (.l xs))) (he : DK X e ρ x) (hz : xs.length < sizeLine) (h : K.nx (ρ.set i (some (.l (xs ++ [x]))))) :
    DS X W (.Expr (.Call (.Attribute (.Name n pn) "append" ap) [e] [] cp) pos) ρ K := fun B =>
  (ps_expr (pe_bm PySem.F.plainAttrs_list PySem.F.slot_list_append PySem.F.type_list_append mt_append (pe_var hN hv hd hcd) (pa_cons (he B) pa_nil g.st) hbase hfew hline g.st g.pl) hs).imp fun D σ H ⟨⟨S, R⟩, A⟩ => by
    obtain ⟨v, h1, p, vs, rfl, h2, h3, h4, h5⟩ := R.sl i _ hi
    refine ⟨_, h1, .inl ⟨rfl, vs, .of h4⟩, S, R, fun w H2 S2 t r1 => ⟨p, vs, w, rfl, rfl, t.h _ _ h4, by rw [h5.length]; exact hz, ?_⟩⟩
    have R1 := R.step t
    have hs2 : S2 p = none := by
      obtain ⟨v', k1, p', vs', k2, k3, k4, k5, k6⟩ := R1.sl i _ hi
      rw [h1] at k1; cases k1; cases k2
      exact k4
    exact A.nx _ _ _ S2 (R1.mutO hi h1 rfl (s' := .l (xs ++ [x])) (fun q hq => .inl hq) ⟨p, _, rfl, h2, hs2, upd_same, (h5.mono t.s).append (.one r1)⟩) h
/-- name[j] = e -/
theorem RpA.lenH {H : Hp} {vs : List V} (h : RpA X.K H vs xs) : vs.length = xs.length := h.length
theorem ds_setI (i : Nat) {m : Nat} {pn sp : Pos} (hN : X.N[i]? = some n) (hv : Vis X.env.scope n) (hd : (n == ("__debug__" : Str)) = false) (hcd : (n == ("__classdict__" : Str)) = false)
    (ha : ∀ v, assign (.Subscript (.Name n pn) a sp) X.env v = (do
      let ov ← holding [v] (eval (.Name n pn) X.env)
      let iv ← holding [v, ov] (eval a X.env)
      standAt sp
      holding [v, ov, iv] (setItem ov iv v)
      release [v, ov, iv] []))
    (hs : swapsWithSole [.Subscript (.Name n pn) a sp] e pos.line X.env = pure false) (hw : swappedStores [.Subscript (.Name n pn) a sp] e X.env = pure none)
    (h1 : (assignEach [.Subscript (.Name n pn) a sp] X.env).map (·.2) = [assign (.Subscript (.Name n pn) a sp) X.env])
    (hi : ρ[i]? = some (some (.l xs))) (he : DK X e ρ x) (hj : DE X a ρ (.int j)) (hm : ixN xs.length j = some m) (h : K.nx (ρ.set i (some (.l (xs.set m x))))) :
    DS X W (.Assign [.Subscript (.Name n pn) a sp] e pos) ρ K := fun B =>
  (ps_asg (he B) (pg_sub (pe_var hN hv hd hcd) (hj B) set_list ha) hs hw h1).imp fun D σ H ⟨⟨S, R⟩, A⟩ => ⟨S, R, fun w H2 S2 t r1 => by
    have R1 := R.step t
    obtain ⟨v, g1, p, vs, rfl, g2, g3, g4, g5⟩ := R1.sl i _ hi
    refine ⟨_, g1, S2, R1, fun u H3 e3 r3 => ⟨p, vs, j, m, rfl, r3.int', e3 _ _ g4, by rw [g5.length]; exact hm, ?_⟩⟩
    exact A.nx _ _ _ S2 ((R1.heap e3).mutO hi g1 rfl (s' := .l (xs.set m x)) (fun q hq => .inl hq) ⟨p, _, rfl, g2, g3, upd_same, g5.set m r1⟩) h⟩

/-! ### targets -/
def Off (vs : List Nat) (σ σ' : L2.St) : Prop := σ'.length = σ.length ∧ ∀ k, k ∉ vs → σ'[k]? = σ[k]?
theorem wipe_at (σ : L2.St) : ∀ (vs : List Nat) (k : Nat), (wipe σ vs)[k]? = if k ∈ vs ∧ k < σ.length then some none else σ[k]?
  | [], k => by simp [wipe]
  | v :: vs, k => by
    unfold wipe
    have h := wipe_length σ vs
    by_cases hk : v = k
    · subst hk
      rw [List.getElem?_set]
      by_cases hl : v < σ.length
      · simp [h, hl]
      · have hl2 : σ.length ≤ v := Nat.le_of_not_lt hl
        simp [h, hl, hl2]
    · rw [List.getElem?_set_ne hk, wipe_at σ vs k]
      simp [Ne.symm hk]
theorem wipe_off {vs : List Nat} {σ σ' : L2.St} (h : Off vs σ σ') : wipe σ' vs = wipe σ vs := by
  refine List.ext_getElem? fun k => ?_
  rw [wipe_at, wipe_at, h.1]
  by_cases hk : k ∈ vs ∧ k < σ.length
  · rw [if_pos hk, if_pos hk]
  · rw [if_neg hk, if_neg hk]
    by_cases hm : k ∈ vs
    · have hl : σ.length ≤ k := by
        refine Nat.le_of_not_lt fun z => hk ⟨hm, z⟩
      rw [List.getElem?_eq_none hl, List.getElem?_eq_none (by rw [h.1]; exact hl)]
    · exact h.2 k hm
theorem wipe_wipe (σ : L2.St) (vs : List Nat) : wipe (wipe σ vs) vs = wipe σ vs := wipe_off ⟨wipe_length σ vs, fun k hk => by rw [wipe_at, if_neg fun z => hk z.1]⟩
theorem Off.set {vs : List Nat} {σ : L2.St} {j : Nat} {v : Option V} (h : j ∈ vs) : Off vs σ (σ.set j v) := ⟨by rw [List.length_set], fun k hk => by rw [List.getElem?_set_ne fun z => hk (by rw [← z]; exact h)]⟩
theorem Off.trans {vs : List Nat} {σ σ1 σ2 : L2.St} (a : Off vs σ σ1) (b : Off vs σ1 σ2) : Off vs σ σ2 := ⟨b.1.trans a.1, fun k hk => (b.2 k hk).trans (a.2 k hk)⟩
theorem Off.refl {vs : List Nat} {σ : L2.St} : Off vs σ σ := ⟨rfl, fun _ _ => rfl⟩
def DG (X : Cx) (tg : Expr) (x : PyData) (ρ ρ' : Rho) (js : List Nat) : Prop := ∀ B : Base X.K, PG X tg (fun v σ H Q => ∃ S, Rel B ρ σ H S ∧ Rp X.K S v x ∧ ∀ σ', Off js σ σ' → Rel B ρ' σ' H S → Q σ' H)
def DGs (X : Cx) (tgs : List Expr) (xs : List PyData) (ρ ρ' : Rho) (js : List Nat) : Prop := ∀ B : Base X.K, PGs X tgs (fun vs σ H Q => ∃ S, Rel B ρ σ H S ∧ RpA X.K S vs xs ∧ ∀ σ', Off js σ σ' → Rel B ρ' σ' H S → Q σ' H)
theorem _root_.L2.PG.imp {X : Cx} {e : Expr} {t t' : TG} (h : PG X e t) (i : ∀ v σ H Q, t' v σ H Q → t v σ H Q) : PG X e t' := ⟨fun pins s σ H v u Q I r q => h.run pins s σ H v u Q I r (i v σ H Q q)⟩
theorem _root_.L2.PGs.imp {X : Cx} {e : List Expr} {t t' : TGs} (h : PGs X e t) (i : ∀ v σ H Q, t' v σ H Q → t v σ H Q) : PGs X e t' := ⟨fun pins s σ H v u Q I r q => h.run pins s σ H v u Q I r (i v σ H Q q)⟩
theorem dg_name (i : Nat) {js : List Nat} (hN : X.N.Nodup) (hi : X.N[i]? = some n) (hx : Loc X.env.scope n) (hf : X.fn n = true ∨ X.env.scope.names.lookup n = some .local) (hj : i ∈ js) : DG X (.Name n pos) x ρ (ρ.set i (some (.d x))) js := fun B =>
  (pg_name hN hi hx hf).imp fun v σ H Q ⟨S, R, r, q⟩ => q _ (Off.set hj) (R.setD i r)
theorem dgs_nil {js : List Nat} : DGs X [] [] ρ ρ js := fun B => pgs_nil.imp fun vs σ H Q ⟨S, R, r, q⟩ => by
  cases r
  exact ⟨rfl, q σ Off.refl R⟩
theorem dgs_cons {ρ1 : Rho} {js : List Nat} (h1 : DG X e x ρ ρ1 js) (h2 : DGs X es xs ρ1 ρ' js) (hs : (assignEach (e :: es) X.env).map (·.2) = assign e X.env :: (assignEach es X.env).map (·.2)) : DGs X (e :: es) (x :: xs) ρ ρ' js := fun B =>
  (pgs_cons (h1 B) (h2 B) hs).imp fun vs σ H Q ⟨S, R, r, q⟩ => by
    cases r with
    | cons r1 r2 => exact ⟨_, _, rfl, S, R, r1, fun σ' o1 R' => ⟨S, R', r2, fun σ2 o2 R2 => q σ2 (o1.trans o2) R2⟩⟩
theorem dg_tup {js : List Nat} {kt : Nat} (hc : X.calm = true) (h : DGs X es xs ρ ρ' js) (hn : (assignEach es X.env).length = xs.length) (hst : (assignEach es X.env).findIdx? (·.1) = none) : DG X (.Tuple es kt pos) (.tuple xs) ρ ρ' js := fun B =>
  (pg_tup hc (h B) hn hst).imp fun v σ H Q ⟨S, R, r, q⟩ => by
    cases r with
    | tup hp r => exact ⟨_, _, rfl, .of (R.sub _ _ hp), r.length, S, R, r, q⟩
/-- a, b = e -/
theorem ds_asgT {tg : Expr} {js : List Nat} (hs : swapsWithSole [tg] e pos.line X.env = pure false) (hw : swappedStores [tg] e X.env = pure none)
    (h1 : (assignEach [tg] X.env).map (·.2) = [assign tg X.env]) (he : DK X e ρ x) (hg : DG X tg x ρ ρ' js) (h : K.nx ρ') : DS X W (.Assign [tg] e pos) ρ K := fun B =>
  (ps_asg (he B) (hg B) hs hw h1).imp fun D σ H ⟨⟨S, R⟩, A⟩ => ⟨S, R, fun v H2 S2 t r1 => ⟨S2, R.step t, r1, fun σ' _ R' => A.nx _ _ _ _ R' h⟩⟩

/-! ### what is walked -/
/-- the iterator gives xs, as long as S stands -/
structure Src (κ : PySem.W.Frag) (J : It) (S : Hp) (xs : List PyData) : Prop where
  go : ∀ i x H, xs[i]? = some x → Ex S H → J.go i H
  yld : ∀ i x v H H' S1, xs[i]? = some x → Ex S1 H → Ex S S1 → J.yld i H v H' → ∃ S', Step S1 H S' H' ∧ Rp κ S' v x
  stop : ∀ H, Ex S H → J.stop xs.length H
def DI (X : Cx) (tg e : Expr) (ρ : Rho) (xs : List PyData) : Prop := ∀ B : Base X.K, PI X tg e (fun σ H R => ∃ S, Rel B ρ σ H S ∧ ∀ J H2 S2, Step S H S2 H2 → Src X.K J S2 xs → R J H2)
theorem _root_.L2.PI.imp {X : Cx} {tg e : Expr} {t t' : TI} (h : PI X tg e t) (i : ∀ σ H R, t' σ H R → t σ H R) : PI X tg e t' := ⟨fun pins s σ H R I q => h.run pins s σ H R I (i σ H R q)⟩
variable {tg : Expr}
theorem src_list {Kf : PySem.W.Frag} {S : Hp} {a : Addr} {vs : List V} (hp : S a = some (.lst vs)) (r : RpA X.K S vs xs) : Src X.K (Itl Kf a) S xs where
  go := fun i x H hx e => by
    obtain ⟨v, h1, _⟩ := r.get hx
    exact ⟨vs, v, .of (e _ _ hp), h1⟩
  yld := fun i x v H H' S1 hx R e ⟨e1, y⟩ => by
    subst e1
    obtain ⟨w, h1, h2⟩ := r.get hx
    have := y vs (.of (R _ _ (e _ _ hp)))
    rw [h1] at this; cases this
    exact ⟨S1, .refl R, h2.mono e⟩
  stop := fun H e => ⟨vs, .of (e _ _ hp), by rw [r.length]; exact Nat.le_refl _⟩
theorem src_tup {Kf : PySem.W.Frag} {S : Hp} {a : Addr} {vs : List V} (hp : S a = some (.tup vs)) (r : RpA X.K S vs xs) : Src X.K (Itt Kf a) S xs where
  go := fun i x H hx e => by
    obtain ⟨v, h1, _⟩ := r.get hx
    exact ⟨vs, v, .of (e _ _ hp), h1⟩
  yld := fun i x v H H' S1 hx R e ⟨e1, y⟩ => by
    subst e1
    obtain ⟨w, h1, h2⟩ := r.get hx
    have := y vs (.of (R _ _ (e _ _ hp)))
    rw [h1] at this; cases this
    exact ⟨S1, .refl R, h2.mono e⟩
  stop := fun H e => ⟨vs, .of (e _ _ hp), by rw [r.length]; exact Nat.le_refl _⟩
theorem di_list (he : DK X e ρ (.list xs)) : DI X tg e ρ xs := fun B =>
  (pi_list (he B)).imp fun σ H R ⟨S, hR, q⟩ => ⟨S, hR, fun v H2 S2 t r1 => by
    cases r1 with
    | lst hp r1 => exact ⟨_, rfl, ⟨_, .of (t.sub _ _ hp)⟩, q _ H2 S2 t (src_list hp r1)⟩⟩
theorem di_tup (he : DK X e ρ (.tuple xs)) : DI X tg e ρ xs := fun B =>
  (pi_tup (he B)).imp fun σ H R ⟨S, hR, q⟩ => ⟨S, hR, fun v H2 S2 t r1 => by
    cases r1 with
    | tup hp r1 => exact ⟨_, rfl, ⟨_, .of (t.sub _ _ hp)⟩, q _ H2 S2 t (src_tup hp r1)⟩⟩
def rangeD (lo : Int) (m : Nat) : List PyData := (List.range m).map fun k : Nat => .int (lo + (k : Int))
theorem src_rng {S : Hp} {lo : Int} {m : Nat} : Src X.K (Itr lo m) S (rangeD lo m) where
  go := fun i x H hx e => by
    have := (List.getElem?_eq_some_iff.mp hx).1
    unfold rangeD at this
    show i < m
    simpa using this
  yld := fun i x v H H' S1 hx R e ⟨e1, y⟩ => by
    subst e1 y
    unfold rangeD at hx
    rw [List.getElem?_map] at hx
    have hi : i < m := by
      rcases Nat.lt_or_ge i m with h | h
      · exact h
      · rw [List.getElem?_eq_none (by simpa using h)] at hx
        cases hx
    rw [List.getElem?_range hi] at hx
    cases hx
    exact ⟨S1, .refl R, .int _⟩
  stop := fun H e => by
    unfold rangeD
    simp [Itr]
theorem di_range {pn : Pos} (g : Blt X "range" (.type "range")) (s : starEach [e] X.env = [(false, eval e X.env)]) (hl : 0 ≤ j ∧ j < 2 ^ 62) (he : DE X e ρ (.int j)) : DI X tg (.Call (.Name "range" pn) [e] [] pos) ρ (rangeD 0 j.toNat) := fun B =>
  (pi_range1 g.gl g.mg (dae_cons he dae_nil (by rw [s]; rfl) B) s).imp fun σ H R ⟨S, hR, q⟩ => ⟨S, hR, fun vs H2 e1 r1 => by
    obtain ⟨v, rfl, h⟩ := r1.one'
    exact ⟨j, by rw [h.int'], by omega, hl.2, q _ H2 S (.heap hR.sub e1) src_rng⟩⟩
def enumD (xs : List PyData) : List PyData := (xs.zipIdx).map fun q => .tuple [.int (q.2 : Nat), q.1]
theorem src_enum {Kf : PySem.W.Frag} {S : Hp} {a : Addr} {vs : List V} (hp : S a = some (.lst vs)) (r : RpA X.K S vs xs) : Src X.K (Ite Kf a) S (enumD xs) where
  go := fun i x H hx e => by
    have hi := (List.getElem?_eq_some_iff.mp hx).1
    unfold enumD at hi
    have hi : i < vs.length := by rw [r.length]; simpa using hi
    exact ⟨vs, vs[i], .of (e _ _ hp), List.getElem?_eq_getElem hi⟩
  yld := fun i x v H H' S1 hx R e ⟨T, w, e1, e2, e3, y⟩ => by
    subst e1 e3
    unfold enumD at hx
    rw [List.getElem?_map, List.getElem?_zipIdx] at hx
    cases hd : xs[i]? with
    | none => rw [hd] at hx; cases hx
    | some d =>
      rw [hd] at hx
      cases hx
      obtain ⟨u, h1, h2⟩ := r.get hd
      have := y vs (.of (R _ _ (e _ _ hp)))
      rw [h1] at this; cases this
      refine ⟨_, .new (o := .tup [.int (i : Nat), w]) R e2, .tup upd_same (.cons ?_ (.one ((h2.mono e).mono (Ex.new (R.back e2)))))⟩
      have : (0 + i : Nat) = i := Nat.zero_add i
      rw [this]
      exact .int _
  stop := fun H e => ⟨vs, .of (e _ _ hp), by unfold enumD; rw [List.length_map, List.length_zipIdx, r.length]; exact Nat.le_refl _⟩
theorem di_enum {pn tp : Pos} {elts : List Expr} {kk : Nat} (g : Blt X "enumerate" (.type "enumerate")) (s : starEach [e] X.env = [(false, eval e X.env)]) (he : DK X e ρ (.list xs)) : DI X (.Tuple elts kk tp) (.Call (.Name "enumerate" pn) [e] [] pos) ρ (enumD xs) := fun B =>
  (pi_enum g.gl g.mg (dak_cons he dak_nil (by rw [s]; rfl) B) s).imp fun σ H R ⟨S, hR, q⟩ => ⟨S, hR, fun vs H2 S2 t r1 => by
    obtain ⟨v, rfl, h⟩ := r1.one'
    cases h with
    | lst hp r1 => exact ⟨_, _, rfl, .of (t.sub _ _ hp), q _ H2 S2 t (src_enum hp r1)⟩⟩
def strD (s : Str) : List PyData := s.cps.toList.map fun c => .str ⟨#[c]⟩
theorem di_str {s : Str} (he : DE X e ρ (.str s)) : DI X tg e ρ (strD s) := fun B =>
  (pi_str (he B)).imp fun σ H R ⟨S, hR, q⟩ => ⟨S, hR, fun v H2 e1 r1 => ⟨s, r1.str', q _ H2 S (.heap hR.sub e1)
    { go := fun i x H hx e => by
        have hi := (List.getElem?_eq_some_iff.mp hx).1
        unfold strD at hi
        show i < s.cps.size
        simpa using hi
      yld := fun i x v H H' S1 hx R e ⟨e1, c, h1, h2⟩ => by
        subst e1 h2
        unfold strD at hx
        rw [List.getElem?_map, Array.getElem?_toList, h1] at hx
        cases hx
        exact ⟨S1, .refl R, .str _⟩
      stop := fun H e => by
        unfold strD
        show s.cps.size ≤ _
        simp }⟩⟩

/-! ### for -/
def wipeR (ρ : Rho) : List Nat → Rho
  | [] => ρ
  | v :: vs => (wipeR ρ vs).set v none
theorem Rel.wipe {B : Base κ} {ρ : Rho} {σ : L2.St} {H S : Hp} (R : Rel B ρ σ H S) : ∀ vs : List Nat, Rel B (wipeR ρ vs) σ H S
  | [] => R
  | v :: vs => (Rel.wipe R vs).forget v
/-- the target and the body's turn, whatever stands -/
def uG (X : Cx) (tg : Expr) : TG := fun v σ H Q => ∃ (B : Base X.K), ∃ ρ x ρ' js S, DG X tg x ρ ρ' js ∧ Rel B ρ σ H S ∧ Rp X.K S v x ∧ ∀ σ', Off js σ σ' → Rel B ρ' σ' H S → Q σ' H
theorem pg_u : PG X tg (uG X tg) := ⟨fun pins s σ H v u Q I r ⟨B, ρ, x, ρ', js, S, d, R, rp, q⟩ => (d B).run pins s σ H v u Q I r ⟨S, R, rp, q⟩⟩
theorem ds_for {α : Type} {iter : Expr} (L : List α) (E : α → PyData) (js : List Nat) (Inv : List α → Rho → Prop) (hp : PassesOwn (model X.prog X.w) X.A X.env X.xe) (hc : X.calm = true) (hf : ∀ x, foldedSetIterable iter X.env x = pure x)
    (hi : DI X tg iter ρ (L.map E)) (h0 : Inv [] (wipeR ρ js))
    (hs : ∀ pre a post ρ', L = pre ++ a :: post → Inv pre ρ' → ∃ ρ'' js', DG X tg (E a) ρ' ρ'' js' ∧ DSs X W body ρ'' { nx := fun r => Inv (pre ++ [a]) (wipeR r js), ct := fun r => Inv (pre ++ [a]) (wipeR r js), bk := K.nx, rt := K.rt, ex := K.ex })
    (hd : ∀ ρ', Inv L ρ' → K.nx ρ') : DS X W (.For tg iter body [] pos) ρ K := fun B =>
  (ps_for hp hc (hi B) pg_u (pss_u (W := W)) hf).imp fun D σ H ⟨⟨S, R⟩, A⟩ => ⟨S, R, fun J H2 S2 t Sr => by
    have R1 := R.step t
    have hnw := R1.nw
    have unb : ∀ {ρ' σ' H' S'}, Rel ⟨S2, B.H⟩ ρ' σ' H' S' → Rel B ρ' σ' H' S' := fun R' => R'.unbase R1.exS hnw
    refine ⟨fun i m σ' H' => m = L.length - i ∧ i ≤ L.length ∧ ∃ ρ' S', Inv (L.take i) ρ' ∧ Rel ⟨S2, B.H⟩ ρ' σ' H' S', ⟨L.length, by simp, Nat.zero_le _, _, S2, by rw [List.take_zero]; exact h0, (R1.rebase).wipe js⟩, ?_⟩
    rintro i m σ' H' ⟨rfl, hi', ρ', S', inv, R'⟩
    by_cases hlt : i < L.length
    · have ei : L = L.take i ++ L[i] :: L.drop (i + 1) := by
        rw [List.getElem_cons_drop, List.take_append_drop]
      have e3 : L.take (i + 1) = L.take i ++ [L[i]] := by rw [List.take_add_one, List.getElem?_eq_getElem hlt]; rfl
      have ex : (L.map E)[i]? = some (E L[i]) := by rw [List.getElem?_map, List.getElem?_eq_getElem hlt]; rfl
      refine .inr ⟨Sr.go i _ H' ex (R'.exS.trans R'.sub), fun σ2 H3 => ∃ ρ2 S3, Inv (L.take (i + 1)) ρ2 ∧ Rel ⟨S2, B.H⟩ ρ2 σ2 H3 S3, fun σ2 H3 ⟨ρ2, S3, q1, q2⟩ => ⟨L.length - (i + 1), by omega, rfl, hlt, ρ2, S3, q1, q2⟩, fun v H3 y => ?_⟩
      obtain ⟨S3, t3, r3⟩ := Sr.yld i _ v H' H3 S' ex R'.sub R'.exS y
      have R3 := R'.step t3
      obtain ⟨ρ'', js', dg, db⟩ := hs _ _ _ _ ei inv
      refine ⟨⟨S2, B.H⟩, ρ', _, ρ'', js', S3, dg, R3, r3, fun σ2 _ R4 => ⟨⟨S2, B.H⟩, ρ'', _, db, ⟨S3, R4⟩, ⟨fun r σ5 H5 S5 R5 q => ?_, fun r σ5 H5 S5 R5 q => A.nx _ _ _ _ (unb R5) q, fun r σ5 H5 S5 R5 q => ?_, fun o v5 H5 q z => A.rt o v5 H5 (q.unbase R1.exS hnw) z, fun C σ5 H5 S5 q z => A.ex C σ5 H5 S5 (Step.unbase (B := B) q R1.exS hnw) z⟩⟩⟩
      · exact ⟨_, S5, by rw [e3]; exact q, R5.wipe js⟩
      · exact ⟨_, S5, by rw [e3]; exact q, R5.wipe js⟩
    · have e : i = L.length := by omega
      subst e
      rw [List.take_length] at inv
      refine .inl ⟨?_, A.nx _ _ _ _ (unb R') (hd _ inv)⟩
      have := Sr.stop H' (R'.exS.trans R'.sub)
      rw [List.length_map] at this
      exact this⟩
theorem ds_while (Inv : Nat → Rho → Prop) (m0 : Nat) (hp : PassesOwn (model X.prog X.w) X.A X.env X.xe) (h0 : Inv m0 ρ)
    (hs : ∀ m ρ', Inv m ρ' → ∃ k, DB X c ρ' k ∧ (k = true → DSs X W body ρ' { nx := fun r => ∃ m', m' < m ∧ Inv m' r, ct := fun r => ∃ m', m' < m ∧ Inv m' r, bk := K.nx, rt := K.rt, ex := K.ex }) ∧ (k = false → K.nx ρ')) : DS X W (.While c body [] pos) ρ K := fun B =>
  (ps_while hp (pt_u) (pss_u (W := W))).imp fun D σ H ⟨⟨S, R⟩, A⟩ => by
    refine ⟨fun m σ' H' => ∃ ρ' S', Inv m ρ' ∧ Rel B ρ' σ' H' S', ⟨m0, ρ, S, h0, R⟩, fun m σ' H' ⟨ρ', S', inv, R'⟩ => ?_⟩
    obtain ⟨k, hb, h1, h2⟩ := hs m ρ' inv
    refine ⟨B, ρ', k, hb, S', R', fun H1 e1 => ?_⟩
    cases k with
    | true => exact iteT ⟨fun σ2 H2 => ∃ ρ2 S2, (∃ m', m' < m ∧ Inv m' ρ2) ∧ Rel B ρ2 σ2 H2 S2, fun σ2 H2 ⟨ρ2, S2, ⟨m', hm, q1⟩, q2⟩ => ⟨m', hm, ρ2, S2, q1, q2⟩, B, ρ', _, h1 rfl, ⟨S', R'.heap e1⟩,
        ⟨fun r σ5 H5 S5 R5 q => ⟨r, S5, q, R5⟩, fun r σ5 H5 S5 R5 q => A.nx _ _ _ _ R5 q, fun r σ5 H5 S5 R5 q => ⟨r, S5, q, R5⟩, A.rt, A.ex⟩⟩
    | false => exact iteF (A.nx _ _ _ _ (R'.heap e1) (h2 rfl))

/-! ### comprehensions -/
def uE (X : Cx) (e : Expr) : TE := fun σ H Q => ∃ (B : Base X.K), ∃ ρ x, DK X e ρ x ∧ rK B ρ x σ H Q
theorem pe_u : PE X e (uE X e) := ⟨fun pins s σ H Q I ⟨B, ρ, x, d, q⟩ => (d B).run pins s σ H Q I q⟩
/-- a block's contexts -/
def Blk (X : Cx) (scope : Scope) (f : Cx → Prop) : Prop := ∀ (s : Shared) (H : Hp) (C : Addr) (cl : List (Str × Addr)) (fp : List Addr), f (X.blk s H scope (compEnvC scope cl C X.env) fp)
theorem Rel.wipe2 {B : Base κ} {ρ : Rho} {σ : L2.St} {H S : Hp} (R : Rel B ρ σ H S) (vs : List Nat) : Rel B (wipeR ρ vs) (L2.wipe σ vs) H S := by
  have key : ∀ vs : List Nat, ∀ k, (wipeR ρ vs)[k]? = if k ∈ vs ∧ k < ρ.length then some none else ρ[k]? := by
    intro vs
    induction vs with
    | nil => intro k; simp [wipeR]
    | cons v vs ih =>
      intro k
      have hl : (wipeR ρ vs).length = ρ.length := by
        clear ih
        induction vs with
        | nil => rfl
        | cons a t ih => unfold wipeR; rw [List.length_set, ih]
      unfold wipeR
      by_cases hk : v = k
      · subst hk
        rw [List.getElem?_set]
        by_cases hl2 : v < ρ.length
        · simp [hl, hl2]
        · have hl3 : ρ.length ≤ v := Nat.le_of_not_lt hl2
          simp [hl, hl2, hl3]
      · rw [List.getElem?_set_ne hk, ih k]
        simp [Ne.symm hk]
  have R' := R.wipe vs
  refine ⟨R'.exH, R'.exS, R'.sub, R'.nw, by rw [wipe_length]; exact R'.len, fun k s h => ?_, fun a b s t q h1 h2 h3 h4 h5 h6 => ?_⟩
  · have hk := key vs k
    obtain ⟨v, g1, g2⟩ := R'.sl k s h
    refine ⟨v, ?_, g2⟩
    rw [wipe_at, if_neg]
    · exact g1
    · rintro ⟨z1, z2⟩
      rw [if_pos ⟨z1, by rw [R.len]; exact z2⟩] at hk
      rw [h] at hk
      cases hk
  · exact R'.sep a b s t q h1 h2 h3 h4 (wipe_some h5).1 (wipe_some h6).1
/-- the readings of a comprehension's parts -/
def rLe {κ : PySem.W.Frag} {α : Type} (L : List α) (f : α → Bool) (g : α → PyData) (ρt : α → Rho) : TE := fun σ H Q => ∃ a, a ∈ L ∧ f a = true ∧ ∃ (B : Base κ), rK B (ρt a) (g a) σ H Q
def rLt {κ : PySem.W.Frag} {α : Type} (L : List α) (f : α → Bool) (ρt : α → Rho) : TT := fun σ H Q => ∃ a, a ∈ L ∧ ∃ (B : Base κ), rB B (ρt a) (f a) σ H Q
def rLg {κ : PySem.W.Frag} {α : Type} (L : List α) (E : α → PyData) (ρ : Rho) (ρt : α → Rho) (vs : List Nat) : TG := fun v σ H Q => ∃ a, a ∈ L ∧ ∃ (B : Base κ), ∃ S, Rel B (wipeR ρ vs) σ H S ∧ Rp κ S v (E a) ∧ ∀ σ', Off vs σ σ' → Rel B (ρt a) σ' H S → Q σ' H
def rLi {κ : PySem.W.Frag} (B : Base κ) (ρ : Rho) (xs : List PyData) : TI := fun σ H R => ∃ S, Rel B ρ σ H S ∧ ∀ J H2 S2, Step S H S2 H2 → Src κ J S2 xs → R J H2
theorem rd_lc {α : Type} {own : List (Str × Nat)} (B : Base X.K) (L : List α) (E : α → PyData) (f : α → Bool) (g : α → PyData) (ρt : α → Rho) (hl : L.length ≤ 16000000) : ∀ σ H Q, rF B ρ ((L.filter f).map g) σ H Q → tLc (rLi B ρ (L.map E)) (rLg (κ := X.K) L E ρ ρt (own.map (·.2))) (rLt (κ := X.K) L f ρt) (rLe (κ := X.K) L f g ρt) (own.map (·.2)) σ H Q := fun σ H Q ⟨S, R, q⟩ => ⟨S, R, fun J H1 S1 t1 Sr D hD => by
    have hDS : S1 D = none := t1.sub.back hD
    have R1 := R.step t1
    refine ⟨fun i m H' => m = L.length - i ∧ i ≤ L.length ∧ ∃ S' vs, Step S1 H1 S' H' ∧ S' D = none ∧ H' D = some (.lst vs) ∧ RpA X.K S' vs (((L.take i).filter f).map g),
      ⟨L.length, by simp, Nat.zero_le _, S1, [], .heap t1.sub (Ex.new hD), hDS, upd_same, .nil⟩, ?_⟩
    rintro i m H' ⟨rfl, hi', S', vs, t', hS', hv', rv⟩
    by_cases hlt : i < L.length
    · have e3 : L.take (i + 1) = L.take i ++ [L[i]] := by rw [List.take_add_one, List.getElem?_eq_getElem hlt]; rfl
      have ex : (L.map E)[i]? = some (E L[i]) := by rw [List.getElem?_map, List.getElem?_eq_getElem hlt]; rfl
      have hmem : L[i] ∈ L := List.getElem_mem hlt
      refine .inr ⟨Sr.go i _ H' ex (t'.s.trans t'.sub), fun H3 => ∃ S' vs, Step S1 H1 S' H3 ∧ S' D = none ∧ H3 D = some (.lst vs) ∧ RpA X.K S' vs (((L.take (i + 1)).filter f).map g), fun H3 q3 => ⟨L.length - (i + 1), by omega, rfl, hlt, q3⟩, fun v H3 y => ?_⟩
      obtain ⟨S3, t3, r3⟩ := Sr.yld i _ v H' H3 S' ex t'.sub t'.s y
      have out : ∀ {S4 H4 S5 H5 : Hp}, Step S4 H4 S5 H5 → S4 D = none → H4 D = some (.lst vs) → S5 D = none := fun {S4 H4 S5 H5} t4 z1 z2 => by
        cases q0 : S5 D with
        | none => rfl
        | some u => rcases t4.nw D u q0 z1 with z3 | ⟨_, z3⟩ <;> rw [z3] at z2 <;> cases z2
      have hS3 : S3 D = none := out t3 hS' hv'
      have hv3 : H3 D = some (.lst vs) := t3.h _ _ hv'
      have R3 : Rel B (wipeR ρ (own.map (·.2))) (L2.wipe σ (own.map (·.2))) H3 S3 := (R1.step (t'.trans t3)).wipe2 _
      refine ⟨L[i], hmem, B, S3, R3, r3, fun σ2 off R4 => ⟨by rw [wipe_off off, wipe_wipe], L[i], hmem, B, S3, R4, fun H4 e4 => ?_⟩⟩
      cases hfa : f L[i] with
      | true =>
        refine iteT ⟨L[i], hmem, hfa, B, S3, R4.heap e4, fun w H5 S5 t5 r5 => ⟨vs, t5.h _ _ (e4 _ _ hv3), ?_, S5, vs ++ [w], ?_, ?_, upd_same, ?_⟩⟩
        · rw [rv.length, List.length_map]
          have := List.length_filter_le f (L.take i)
          rw [List.length_take] at this
          have z : (16000000 : Nat) < sizeLine := by rw [sizeLine_eq]; decide
          omega
        · have t6 : Step S1 H1 S5 H5 := ((t'.trans t3).trans (.heap t3.sub e4)).trans t5
          exact ⟨t6.h.mut hD, t6.s, t6.sub.mut (out t5 hS3 (e4 _ _ hv3)), t6.nw⟩
        · exact out t5 hS3 (e4 _ _ hv3)
        · rw [e3, List.filter_append, List.map_append]
          have : ([L[i]].filter f).map g = [g L[i]] := by simp [hfa]
          rw [this]
          exact (rv.mono (t3.s.trans t5.s)).append (.one r5)
      | false =>
        refine iteF ⟨S3, vs, (t'.trans t3).trans (.heap t3.sub e4), hS3, e4 _ _ hv3, ?_⟩
        rw [e3, List.filter_append, List.map_append]
        have : ([L[i]].filter f).map g = [] := by simp [hfa]
        rw [this, List.append_nil]
        exact rv.mono t3.s
    · have e : i = L.length := by omega
      subst e
      rw [List.take_length] at rv
      refine .inl ⟨?_, q D vs H' S' (t1.trans t') (t1.h.back hD) hS' hv' rv⟩
      have := Sr.stop H' (t'.s.trans t'.sub)
      rw [List.length_map] at this
      exact this⟩
theorem df_lc {α : Type} {elt iter : Expr} {ifs : List Expr} {scope : Scope} {own : List (Str × Nat)} (L : List α) (E : α → PyData) (f : α → Bool) (g : α → PyData) (ρt : α → Rho)
    (hc : X.calm = true) (hN : X.N.Nodup) (ok : BlkOk X.N X.env.scope scope own) (hfs : ∀ x, foldedSetIterable iter X.env x = pure x)
    (hi : DI X tg iter ρ (L.map E)) (hl : L.length ≤ 16000000)
    (hg : ∀ a, a ∈ L → Blk X scope fun X' => DG X' tg (E a) (wipeR ρ (own.map (·.2))) (ρt a) (own.map (·.2)))
    (ht : ∀ a, a ∈ L → Blk X scope fun X' => ∀ B : Base X'.K, PTs X' ifs (rB B (ρt a) (f a)))
    (he : ∀ a, a ∈ L → f a = true → Blk X scope fun X' => DK X' elt (ρt a) (g a)) : DF X (.ListComp elt [⟨tg, iter, ifs, 0⟩] scope pos) ρ ((L.filter f).map g) := fun B =>
  (pe_lc (te := rLe (κ := X.K) L f g ρt) (tt := rLt (κ := X.K) L f ρt) (g := rLg (κ := X.K) L E ρ ρt (own.map (·.2))) (wi := rLi B ρ (L.map E)) hc hN (hi B) ok
    (fun s H C cl fp => ⟨fun pins s' σ H v u Q I r ⟨a, ha, B, S, R, rp, q⟩ => (hg a ha s _ C cl fp B).run pins s' σ H v u Q I r ⟨S, R, rp, q⟩⟩)
    (fun s H C cl fp => ⟨fun pins s' σ H Q I ⟨a, ha, B, q⟩ => (ht a ha s _ C cl fp B).run pins s' σ H Q I q⟩)
    (fun s H C cl fp => ⟨fun pins s' σ H Q I ⟨a, ha, hfa, B, q⟩ => (he a ha hfa s _ C cl fp B).run pins s' σ H Q I q⟩) hfs).imp (rd_lc B L E f g ρt hl)
/-- name = [..] on one line (the store swapped) -/
theorem ds_setLc {α : Type} {elt iter : Expr} {ifs : List Expr} {scope : Scope} {own : List (Str × Nat)} {py : Pos} {p2 : Pos} (i : Nat) (L : List α) (E : α → PyData) (f : α → Bool) (g : α → PyData) (ρt : α → Rho)
    (hc : X.calm = true) (hN : X.N.Nodup) (hy : X.N[i]? = some n) (hyl : X.env.scope.names.lookup n = some .local) (hsw : swapsWith (.ListComp elt [⟨tg, iter, ifs, 0⟩] scope p2) (some (.Name n py)) pos.line X.env = pure true) (ok : BlkOk X.N X.env.scope scope own) (hfs : ∀ x, foldedSetIterable iter X.env x = pure x)
    (hi : DI X tg iter ρ (L.map E)) (hl : L.length ≤ 16000000)
    (hg : ∀ a, a ∈ L → Blk X scope fun X' => DG X' tg (E a) (wipeR ρ (own.map (·.2))) (ρt a) (own.map (·.2)))
    (ht : ∀ a, a ∈ L → Blk X scope fun X' => ∀ B : Base X'.K, PTs X' ifs (rB B (ρt a) (f a)))
    (he : ∀ a, a ∈ L → f a = true → Blk X scope fun X' => DK X' elt (ρt a) (g a)) (h : K.nx (ρ.set i (some (.l ((L.filter f).map g))))) : DS X W (.Assign [.Name n py] (.ListComp elt [⟨tg, iter, ifs, 0⟩] scope p2) pos) ρ K := fun B =>
  (ps_setLc (te := rLe (κ := X.K) L f g ρt) (tt := rLt (κ := X.K) L f ρt) (g := rLg (κ := X.K) L E ρ ρt (own.map (·.2))) (wi := rLi B ρ (L.map E)) hc hN hy hyl hsw (hi B) ok
    (fun s H C cl fp => ⟨fun pins s' σ H v u Q I r ⟨a, ha, B, S, R, rp, q⟩ => (hg a ha s _ C cl fp B).run pins s' σ H v u Q I r ⟨S, R, rp, q⟩⟩)
    (fun s H C cl fp => ⟨fun pins s' σ H Q I ⟨a, ha, B, q⟩ => (ht a ha s _ C cl fp B).run pins s' σ H Q I q⟩)
    (fun s H C cl fp => ⟨fun pins s' σ H Q I ⟨a, ha, hfa, B, q⟩ => (he a ha hfa s _ C cl fp B).run pins s' σ H Q I q⟩) hfs).imp fun D σ H ⟨⟨S, R⟩, A⟩ =>
    rd_lc B L E f g ρt hl σ H (fun x H1 => D.nx (σ.set i (some x)) H1) ⟨S, R, fun p vs H2 S2 t hp hs hv r1 => A.nx _ _ H2 S2 (R.setO t.h (R.step t) i (s := .l ((L.filter f).map g)) (fun q hq => by cases hq; exact hp) ⟨p, vs, rfl, R.exH.back hp, hs, hv, r1⟩) h⟩
end
end Dt

/-! Dt: a def by its body; short forms with what is found by computation filled in; natural numbers. -/
namespace Dt
open PySem PySem.Spec PyProof.Rows L2
variable {κ : PySem.W.Frag}

/-! ### a def -/
def rho0 (N : List Str) (xs : List PyData) : Rho := (xs.map fun x => some (Sl.d x)) ++ List.replicate (N.length - xs.length) none
def fnK (o : Rs) : En := { nx := fun _ => o = .k .none, rt := fun o' => o' = o, ex := fun C => o = .raise C }
abbrev wE (E : XK) : WX := fun cls d _ H => E cls d H
theorem RpA.rel0 {κ : PySem.W.Frag} {S H : Hp} {vs : List V} {xs : List PyData} (hS : Ex S H) (r : RpA κ S vs xs) (N : List Str) : Rel (κ := κ) ⟨S, H⟩ (rho0 N xs) (L2.start N vs) H S where
  exH := Ex.refl _
  exS := Ex.refl _
  sub := hS
  nw := fun a o h h' => by
    have h2 : S a = none := h'
    rw [h] at h2; cases h2
  len := by unfold rho0 L2.start; simp [r.length]
  sl := fun i s h => by
    unfold rho0 at h
    by_cases hi : i < xs.length
    · rw [List.getElem?_append_left (by simpa using hi), List.getElem?_map, List.getElem?_eq_getElem hi] at h
      cases h
      obtain ⟨v, h1, h2⟩ := r.get (List.getElem?_eq_getElem hi)
      have hv : i < vs.length := by rw [r.length]; exact hi
      refine ⟨v, ?_, h2⟩
      unfold L2.start
      rw [List.getElem?_append_left (by simpa using hv), List.getElem?_map, h1]
      rfl
    · rw [List.getElem?_append_right (by simpa using hi), List.getElem?_replicate] at h
      split at h <;> cases h
  sep := fun i j s t v w p h1 h2 h3 h4 h5 h6 => by
    exfalso
    unfold rho0 at h1
    by_cases hi : i < xs.length
    · rw [List.getElem?_append_left (by simpa using hi), List.getElem?_map, List.getElem?_eq_getElem hi] at h1
      cases h1
      exact h5
    · rw [List.getElem?_append_right (by simpa using hi), List.getElem?_replicate] at h1
      split at h1 <;> cases h1
section
variable {P : Program} {w : World} {K : PySem.W.Frag} {mg : Str → Option Value} {base : Heap}
/-- the context of a def's body -/
abbrev bX (P : Program) (w : World) (K : PySem.W.Frag) (mg : Str → Option Value) (base : Heap) (N : List Str) (qual : Str) (st : Stmt) (f : Addr) (cdv : Value) (A : Around) (outer : List Env) (s : Shared) (H : Hp) (E : XK) : Cx :=
  cxOf (L2.CX P w) P w K mg base N qual (defScope st) f cdv A outer s H E
theorem def_ok {x qual : Str} {st : Stmt} {f : Addr} {fd : FuncData} {N ps : List Str} {k m : Nat} {φ : List PyData → Rs → Prop} (F : Fun K x qual st f fd) (Sc : FnScope N ps (defScope st)) (hm : ps.length = m)
    (body : ∀ (cdv : Value) (A : Around) (outer : List Env) (s : Shared) (H : Hp) (E : XK), Room k (A.deeper (envOfC qual (defScope st) s.heap.objs.size f cdv)) → ∀ xs o, φ xs o → xs.length = m →
      DSs (bX P w K mg base N qual st f cdv A outer s H E) (wE E) (defBody st) (rho0 N xs) (fnK o)) : FnOk P w K mg base (L2.CX P w) (k + 1) f fd ps (spD K φ m) := by
  refine F.okX Sc (fun vs H Q E h => ?_) (fun cdv A outer s H vs Q E hr h => ?_)
  · obtain ⟨S, xs, o, hS, r, hφ, hl, _⟩ := h
    rw [r.length, hl, hm]
  · obtain ⟨S, xs, o, hS, r, hφ, hl, hQ, hE⟩ := h
    refine ⟨_, body cdv A outer s H E hr xs o hφ hl ⟨S, H⟩, ⟨⟨S, r.rel0 hS N⟩, ⟨fun ρ σ H' S' R z => ?_, fun _ _ _ _ _ z => z.elim, fun _ _ _ _ _ z => z.elim, fun o' v H' q z => ?_, fun C σ H' S' e z => ?_⟩⟩⟩
    · have z : o = .k .none := z
      subst z
      exact hQ _ _ ⟨S', R.base, .non⟩
    · have z : o' = o := z
      subst z
      exact hQ _ _ q
    · exact hE C z H' e.h
theorem bX_takes {N : List Str} {qual : Str} {st : Stmt} {f : Addr} {cdv : Value} {A : Around} {outer : List Env} {s : Shared} {H : Hp} {E : XK} : Takes (bX P w K mg base N qual st f cdv A outer s H E) (wE E) := takes_of rfl rfl rfl rfl
theorem bX_po {N : List Str} {qual : Str} {st : Stmt} {f : Addr} {cdv : Value} {A : Around} {outer : List Env} {s : Shared} {H : Hp} {E : XK} : PassesOwn (model P w) (bX P w K mg base N qual st f cdv A outer s H E).A (bX P w K mg base N qual st f cdv A outer s H E).env (bX P w K mg base N qual st f cdv A outer s H E).xe :=
  passes_of (X := bX P w K mg base N qual st f cdv A outer s H E) rfl
/-- a def of the text that keeps a promise, as the module has it -/
def GDef (P : Program) (w : World) (K : PySem.W.Frag) (mg : Str → Option Value) (base : Heap) (n : Str) (m : Nat) (φ : List PyData → Rs → Prop) (k : Nat) : Prop :=
  ∃ f fd ps, FnOk P w K mg base (L2.CX P w) k f fd ps (spD K φ m) ∧ mg n = some (.ref f) ∧ PySem.W.keepIn K (.ref f) = true ∧ Binds K fd ps []
end
theorem GDef.at {X : Cx} {n : Str} {m k j : Nat} {φ : List PyData → Rs → Prop} (g : GDef X.prog X.w X.K X.mg X.base n m φ k) (hr : Room j X.A) (hk : k ≤ j := by decide) (gl : Gl X n := by rfl) (nd : (n == ("__debug__" : Str)) = false := by decide) : Def X n m φ :=
  let ⟨f, fd, ps, F, h1, h2, h3⟩ := g
  ⟨⟨f, fd, ps, k, F, hr.mono hk, h1, h2, h3⟩, gl, nd⟩

/-! ### short forms -/
section
variable {X : Cx} {W : WX} {e a b c : Expr} {es : List Expr} {ρ ρ' : Rho} {x y z : PyData} {xs ys : List PyData} {pos p2 p : Pos} {i j : Int} {n : Str} {k : Bool} {st : Stmt} {rest body orelse : List Stmt} {K : En}
/-- data in slot i, kept; read -/
theorem v (i : Nat) (hN : X.N[i]? = some n := by rfl) (hv : Vis X.env.scope n := by first | exact Or.inl rfl | exact Or.inr (Or.inl rfl) | exact Or.inr (Or.inr rfl)) (hd : (n == ("__debug__" : Str)) = false := by decide) (hcd : (n == ("__classdict__" : Str)) = false := by decide)
    (h : ρ[i]? = some (some (.d x)) := by rfl) : DK X (.Name n pos) ρ x := dk_var i hN hv hd hcd h
theorem ve (i : Nat) (hN : X.N[i]? = some n := by rfl) (hv : Vis X.env.scope n := by first | exact Or.inl rfl | exact Or.inr (Or.inl rfl) | exact Or.inr (Or.inr rfl)) (hd : (n == ("__debug__" : Str)) = false := by decide) (hcd : (n == ("__classdict__" : Str)) = false := by decide)
    (h : ρ[i]? = some (some (.d x)) := by rfl) : DE X (.Name n pos) ρ x := (dk_var i hN hv hd hcd h).toE
/-- an own list in slot i -/
theorem vl (i : Nat) (hN : X.N[i]? = some n := by rfl) (hv : Vis X.env.scope n := by first | exact Or.inl rfl | exact Or.inr (Or.inl rfl) | exact Or.inr (Or.inr rfl)) (hd : (n == ("__debug__" : Str)) = false := by decide) (hcd : (n == ("__classdict__" : Str)) = false := by decide)
    (h : ρ[i]? = some (some (.l xs)) := by rfl) : DL X (.Name n pos) ρ xs := dl_var i hN hv hd hcd h
theorem vle (i : Nat) (hN : X.N[i]? = some n := by rfl) (hv : Vis X.env.scope n := by first | exact Or.inl rfl | exact Or.inr (Or.inl rfl) | exact Or.inr (Or.inr rfl)) (hd : (n == ("__debug__" : Str)) = false := by decide) (hcd : (n == ("__classdict__" : Str)) = false := by decide)
    (h : ρ[i]? = some (some (.l xs)) := by rfl) : DE X (.Name n pos) ρ (.list xs) := (dl_var i hN hv hd hcd h).toE
/-- arguments -/
theorem a1 (he : starEach (e :: es) X.env = (false, eval e X.env) :: starEach es X.env := by rfl) (hpl : (backTo pos (starEach es X.env)).any (·.1) = false := by rfl) : Arg1 X e es pos := ⟨he, hpl⟩
theorem ae (ha : DE X e ρ x) (hr : DAe X es ρ xs := by exact dae_nil) (hs : starEach (e :: es) X.env = (false, eval e X.env) :: starEach es X.env := by rfl) : DAe X (e :: es) ρ (x :: xs) := dae_cons ha hr hs
theorem ak (ha : DK X e ρ x) (hr : DAk X es ρ xs := by exact dak_nil) (hs : starEach (e :: es) X.env = (false, eval e X.env) :: starEach es X.env := by rfl) : DAk X (e :: es) ρ (x :: xs) := dak_cons ha hr hs
theorem blt {u : Value} (mg : X.mg n = none) (gl : Gl X n := by rfl) (bt : bootBuiltins n = some u := by decide +kernel) (nn : n ≠ "__name__" := by decide) (nd : (n == ("__debug__" : Str)) = false := by decide) : Blt X n u := ⟨gl, mg, bt, nn, nd⟩
/-- name = e -/
theorem set (i : Nat) {pn : Pos} (he : DK X e ρ x) (h : K.nx (ρ.set i (some (.d x)))) (hN : X.N.Nodup := by assumption) (hi : X.N[i]? = some n := by rfl) (hx : Loc X.env.scope n := by first | exact Or.inl rfl | exact Or.inr rfl) (hf : X.fn n = true ∨ X.env.scope.names.lookup n = some .local := by first | exact .inl rfl | exact .inr rfl) (hs : swapsWith e (some (.Name n pn)) pos.line X.env = pure false := by rfl) :
    DS X W (.Assign [.Name n pn] e pos) ρ K := ds_set i hN hi hx hf hs he h
theorem setF (i : Nat) {pn : Pos} (he : DF X e ρ xs) (h : K.nx (ρ.set i (some (.l xs)))) (hN : X.N.Nodup := by assumption) (hi : X.N[i]? = some n := by rfl) (hx : Loc X.env.scope n := by first | exact Or.inl rfl | exact Or.inr rfl) (hf : X.fn n = true ∨ X.env.scope.names.lookup n = some .local := by first | exact .inl rfl | exact .inr rfl) (hs : swapsWith e (some (.Name n pn)) pos.line X.env = pure false := by rfl) :
    DS X W (.Assign [.Name n pn] e pos) ρ K := ds_setF i hN hi hx hf hs he h
theorem retO (i : Nat) {pn : Pos} (h : K.rt (.f xs)) (hi : ρ[i]? = some (some (.l xs)) := by rfl) (hN : X.N[i]? = some n := by rfl) (hv : Vis X.env.scope n := by first | exact Or.inl rfl | exact Or.inr (Or.inl rfl) | exact Or.inr (Or.inr rfl)) (hd : (n == ("__debug__" : Str)) = false := by decide) (hcd : (n == ("__classdict__" : Str)) = false := by decide) : DS X W (.Return (some (.Name n pn)) pos) ρ K :=
  ds_retO i hN hv hd hcd hi h
theorem expr (he : DE X e ρ x) (h : K.nx ρ) (hs : swapsWith e none pos.line X.env = pure false := by rfl) : DS X W (.Expr e pos) ρ K := ds_expr hs he h
theorem exprR {C : Addr} (he : DR X W e ρ C) (h : K.ex C) (hs : swapsWith e none pos.line X.env = pure false := by rfl) : DS X W (.Expr e pos) ρ K := ds_exprR hs he h
theorem app (i : Nat) {pn ap cp : Pos} (he : DK X e ρ x) (hz : xs.length < sizeLine) (h : K.nx (ρ.set i (some (.l (xs ++ [x]))))) (hi : ρ[i]? = some (some (.l xs)) := by rfl) (hN : X.N[i]? = some n := by rfl) (hv : Vis X.env.scope n := by first | exact Or.inl rfl | exact Or.inr (Or.inl rfl) | exact Or.inr (Or.inr rfl)) (hd : (n == ("__debug__" : Str)) = false := by decide) (hcd : (n == ("__classdict__" : Str)) = false := by decide)
    (hbase : attributeBase (.Name n pn) "append" X.env (eval (.Name n pn) X.env) = eval (.Name n pn) X.env := by rfl)
    (hfew : ((backTo cp (starEach (e :: []) X.env)).all (fun x => !x.1) && (backToKw cp (keywordEach [] X.env)).all (fun x => x.1.isSome)
      && decide ((e :: []).length + ([] : List Keyword).length + (if ([] : List Keyword).isEmpty then 0 else 1) < 30)) = true := by rfl)
    (hline : (ap.endLine == cp.line) = true := by rfl) (g : Arg1 X e [] cp := by exact a1) (hs : swapsWith (.Call (.Attribute (.Name n pn) "append" ap) [e] [] cp) none pos.line X.env = pure false := by rfl) :
    DS X W (.Expr (.Call (.Attribute (.Name n pn) "append" ap) [e] [] cp) pos) ρ K := ds_app i hN hv hd hcd hbase hfew hline g hs hi he hz h
/-- a target -/
theorem gn (i : Nat) {js : List Nat} (hN : X.N.Nodup := by assumption) (hi : X.N[i]? = some n := by rfl) (hx : Loc X.env.scope n := by first | exact Or.inl rfl | exact Or.inr rfl) (hf : X.fn n = true ∨ X.env.scope.names.lookup n = some .local := by first | exact .inl rfl | exact .inr rfl) (hj : i ∈ js := by decide) : DG X (.Name n pos) x ρ (ρ.set i (some (.d x))) js := dg_name i hN hi hx hf hj
theorem gcons {ρ1 : Rho} {js : List Nat} (h1 : DG X e x ρ ρ1 js) (h2 : DGs X es xs ρ1 ρ' js := by exact dgs_nil) (hs : (assignEach (e :: es) X.env).map (·.2) = assign e X.env :: (assignEach es X.env).map (·.2) := by rfl) : DGs X (e :: es) (x :: xs) ρ ρ' js := dgs_cons h1 h2 hs
theorem gtup {js : List Nat} {kt : Nat} (h : DGs X es xs ρ ρ' js) (hc : X.calm = true := by rfl) (hn : (assignEach es X.env).length = xs.length := by rfl) (hst : (assignEach es X.env).findIdx? (·.1) = none := by rfl) : DG X (.Tuple es kt pos) (.tuple xs) ρ ρ' js := dg_tup hc h hn hst
theorem setT {tg : Expr} {js : List Nat} (he : DK X e ρ x) (hg : DG X tg x ρ ρ' js) (h : K.nx ρ') (hs : swapsWithSole [tg] e pos.line X.env = pure false := by rfl) (hw : swappedStores [tg] e X.env = pure none := by rfl)
    (h1 : (assignEach [tg] X.env).map (·.2) = [assign tg X.env] := by rfl) : DS X W (.Assign [tg] e pos) ρ K := ds_asgT hs hw h1 he hg h

/-! ### natural numbers -/
abbrev nI (m : Nat) : PyData := .int (m : Int)
abbrev nL (l : List Nat) : PyData := .list (l.map nI)
abbrev nT (l : List Nat) : PyData := .tuple (l.map nI)
variable {m m' : Nat}
theorem dk_nat {k : Nat} {q : Int} (h : q = (m : Int) := by rfl) : DK X (.Constant (.int q) k pos) ρ (nI m) := by
  subst h
  exact dk_int
theorem de_nat {k : Nat} {q : Int} (h : q = (m : Int) := by rfl) : DE X (.Constant (.int q) k pos) ρ (nI m) := (dk_nat h).toE
theorem de_int {q : Int} {k : Nat} : DE X (.Constant (.int q) k pos) ρ (.int q) := dk_int.toE
theorem dk_addN (ha : DE X a ρ (nI m)) (hb : DE X b ρ (nI m')) : DK X (.BinOp a .Add b pos) ρ (nI (m + m')) := (dk_add ha hb).cast (by simp)
theorem dk_subN (ha : DE X a ρ (nI m)) (hb : DE X b ρ (nI m')) (h : m' ≤ m) : DK X (.BinOp a .Sub b pos) ρ (nI (m - m')) := (dk_sub ha hb).cast (by show PyData.int _ = PyData.int _; congr 1; omega)
theorem dk_mulN (ha : DE X a ρ (nI m)) (hb : DE X b ρ (nI m')) (h : m < 2 ^ 63 ∨ m' < 2 ^ 63) : DK X (.BinOp a .Mult b pos) ρ (nI (m * m')) := (dk_mul ha hb (by unfold CMul; omega)).cast (by simp)
theorem dk_modN (ha : DE X a ρ (nI m)) (hb : DE X b ρ (nI m')) (h : 0 < m') : DK X (.BinOp a .Mod b pos) ρ (nI (m % m')) := (dk_mod ha hb (by omega)).cast (by simp)
theorem dk_divN (ha : DE X a ρ (nI m)) (hb : DE X b ρ (nI m')) (h : 0 < m' ∧ m' < 1073741824) : DK X (.BinOp a .FloorDiv b pos) ρ (nI (m / m')) := (dk_div ha hb (by omega)).cast (by simp)
theorem rangeD_nat (m : Nat) : rangeD 0 m = (List.range m).map nI := by
  unfold rangeD
  refine List.map_congr_left fun k _ => ?_
  rw [Int.zero_add]
theorem di_rangeN {pn : Pos} {tg : Expr} (mg : X.mg "range" = none) (he : DE X e ρ (nI m)) (hl : m < 2 ^ 62) (gl : Gl X "range" := by rfl) (s : starEach [e] X.env = [(false, eval e X.env)] := by rfl) : DI X tg (.Call (.Name "range" pn) [e] [] pos) ρ ((List.range m).map nI) := by
  have := di_range (tg := tg) (pos := pos) (pn := pn) ⟨gl, mg, boot_range, by decide, by decide⟩ s (by omega) he
  rw [Int.toNat_natCast, rangeD_nat] at this
  exact this
end
end Dt

/-! Dt: isinstance of data; raise, try. -/
namespace Dt
open PySem PySem.Spec PyProof.Rows L2
variable {κ : PySem.W.Frag}
/-- the class of data -/
def clsD : PyData → String
  | .none => "NoneType"
  | .bool _ => "bool"
  | .int _ => "int"
  | .str _ => "str"
  | .list _ => "list"
  | .tuple _ => "tuple"
  | .dict ((.none, _) :: _) => "list"
  | .dict _ => "dict"
theorem RpT.key {κ : PySem.W.Frag} {H : Hp} : ∀ {ds : List (PyData × PyData)} {vs : List (List Key × V)}, RpT κ H vs ds → ∀ q ∈ ds, q.1 ≠ .none
  | _, _, .nil, q, hq => by cases hq
  | _, _, .cons (k := k) h r, q, hq => by
    rcases List.mem_cons.mp hq with e | e
    · subst e
      intro z; cases z
    · exact RpT.key r q e
theorem clsD_dict {ds : List (PyData × PyData)} (h : ∀ q ∈ ds, q.1 ≠ .none) : clsD (.dict ds) = "dict" := by
  cases ds with
  | nil => rfl
  | cons q r =>
    obtain ⟨a, b⟩ := q
    have := h _ List.mem_cons_self
    cases a <;> first | rfl | exact absurd rfl this
/-- isinstance of a locked dict of tuples -/
def rIsF (K : PySem.W.Frag) : List V → Hp → VK → Prop := fun xs H Q => ∃ (a : Addr) (o : Obj) (kvs : List (List Key × V)) (c : V) (u : Value) (b : Bool), xs = [.ref a, c] ∧ ClsV c u ∧ H a = some (.frz o (.dT kvs)) ∧ PySem.W.kitOne K (.type "dict") u = some b ∧ Q (.bl b) H
theorem call_isF {X : Cx} : CallR X (.builtin "isinstance") (rIsF X.K) := by
  intro pins s σ H xs us Q I r h
  obtain ⟨a, ob, kvs, c, u, b, rfl, k, ea, e, q⟩ := h
  obtain ⟨u1, u2, rfl, r1, r2⟩ := vals2 r
  have e2 := k.eq r2
  subst e2
  cases (show u1 = Value.ref a from r1)
  obtain ⟨_, _, _, xs, _, o, es, ep, h1, h2, _⟩ := (show ObjOk X.prog X.w H s.heap a (.frz ob (.dT kvs)) from I.hok a _ ea)
  exact PySem.W.kia_one PySem.W.kitx_dict I.kIn ⟨o, h1, h2.1⟩ e (fun z => nomatch z) fun tk => ⟨.bl b, H, I.tok tk, rfl, q⟩
theorem isi_data {X : Cx} {H : Hp} {v : V} {x : PyData} {T : String} {b : Bool} {Q : VK} (h : Rp X.K H v x) (e : kitB (clsD x) T = some b) (q : Q (.bl b) H) : rIsi X.K [v, .ty T] H Q ∨ rIsF X.K [v, .ty T] H Q := by
  have one : ∀ {t : String}, clsD x = t → TyX X.K H v (.type t) → rIsi X.K [v, .ty T] H Q := fun {t} et ty => ⟨v, .ty T, _, _, b, rfl, .ty T, ty, kit_ty (et ▸ e), q⟩
  cases h with
  | non => exact .inl (one rfl (.base .non))
  | bl k => exact .inl (one rfl (.base (.bl k)))
  | int k => exact .inl (one rfl (.base (.int k)))
  | str k => exact .inl (one rfl (.base (.str k)))
  | lst h _ => exact .inl (one rfl (.base (.lst h)))
  | tup h _ => exact .inl (one rfl (.base (.tup h)))
  | scr h _ => exact .inl (one rfl (.base (.frz h)))
  | own h _ =>
    obtain ⟨ob, its, m, h1, h2, _⟩ := h
    exact .inl (one rfl (.kList h1 h2))
  | dT h r =>
    have ec := clsD_dict (RpT.key r)
    rcases h with h | ⟨o, h⟩
    · exact .inl (one ec (.base (.dT h)))
    · exact .inr ⟨_, o, _, _, _, b, rfl, .ty T, h, kit_ty (ec ▸ e), q⟩
section
variable {X : Cx} {W : WX} {e a b c : Expr} {es : List Expr} {ρ ρ' : Rho} {x y z : PyData} {xs ys : List PyData} {pos p2 p : Pos} {i j : Int} {n : Str} {k : Bool} {st : Stmt} {rest body orelse : List Stmt} {K : En}
/-- isinstance(e, T), T a built-in class -/
theorem dk_isi {T : String} {nt : Str} {pt : Pos} (g : Blt X n (.builtin "isinstance")) (gt : Blt X nt (.type T)) (ha : DE X e ρ x) (s : Arg1 X e [.Name nt pt] pos) (s2 : starEach [.Name nt pt] X.env = (false, eval (.Name nt pt) X.env) :: starEach [] X.env) (h : kitB (clsD x) T = some k) :
    DK X (.Call (.Name n p) [e, .Name nt pt] [] pos) ρ (.bool k) := fun B =>
  (pe_callB (CallR.or call_isi call_isF) g.gl g.mg g.bt (pa_cons (ha B) (pa_cons (pe_bltn (v := .ty T) gt.gl gt.mg gt.bt rfl gt.nn gt.nd) pa_nil s2) s.st) g.nn g.nd s.st s.pl).imp fun σ H Q ⟨S, R, q⟩ => ⟨S, R, fun v H1 e1 r1 => isi_data r1 h (q _ H1 S (.heap R.sub e1) (.bl k))⟩

/-! ### raise -/
structure ExcK (K : PySem.W.Frag) (mg : Str → Option Value) (n : Str) (C : Addr) : Prop where
  q : PySem.W.excIn K C [.type "ValueError", .type "Exception", .type "BaseException", .type "object"] "ValueError.__new__" = true
  g : mg n = some (.ref C)
  k : PySem.W.keepIn K (.ref C) = true
  b : PySem.W.subIn K (.ref C) (.type "BaseException") = some true
  t : PySem.W.typeIn K (.ref C) = some (.type "type")
theorem raise {C : Addr} {m : Str} {j : Nat} {pq : Pos} (ek : ExcK X.K X.mg n C) (tk : Takes X W) (h : K.ex C) (hc : X.calm = true := by rfl) (hg : Gl X n := by rfl) (hdb : (n == ("__debug__" : Str)) = false := by decide) : DS X W (.Raise (some (.Call (.Name n p) [.Constant (.str m) j pq] [] pos)) none p2) ρ K := fun B =>
  (ps_raise hc tk (pmk_own PySem.F.excBase_ValueError ek.q ek.g ek.k (raises_own ek.b ek.t) hg hdb)).imp fun D σ H ⟨⟨S, R⟩, A⟩ => A.ex C σ H S R.base h

/-! ### try .. except X as n -/
abbrev w0 : WX := fun _ _ _ _ => False
theorem ds_try {c : Value} {nx : Str} {i : Nat} {b₀ : Stmt} {suite : List Stmt} {np pos' : Pos} (G : Addr → Prop) (hs : X.stack = X.env :: X.outer) (hf : X.env.frame = some X.env.locals) (hN : X.N.Nodup) (hi : X.N[i]? = some n) (hln : X.env.kindOf n = some .local) (hc : Names X nx c) (tk : Takes X W)
    (hb : ∀ (W' : WX) (pn : List (Addr × Obj)) (xe : Value → Shared → Prop), Takes (X.tr pn xe) W' → PassesOwn (model X.prog X.w) X.A X.env xe → DSs (X.tr pn xe) W' body ρ { K with ex := G })
    (hm : ∀ C, G C → PySem.W.exmOne X.K (.ref C) c = some true)
    (hsu : ∀ C, G C → ∀ (a : Addr) (oe : Obj) (pn : List (Addr × Obj)), Zc (.ref C) none oe → (∃ vs, oe.data = .fields vs) → DSs (X.suite a ((a, oe) :: pn)) w0 (b₀ :: suite) ((List.replicate X.N.length none).set i (some (.x a))) { nx := fun r => K.nx (r.set i none), bk := fun r => K.bk (r.set i none), ct := fun r => K.ct (r.set i none), rt := K.rt }) :
    DS X W (.Try body [.ExceptHandler (some (.Name nx np)) (some n) (b₀ :: suite) pos'] [] [] pos) ρ K := fun B => by
  refine (ps_try_as (tb := fun W' D σ H => ∃ (B : Base X.K), rS B W' ρ { K with ex := G } D σ H)
    (ts := fun a cls d D σ H => ∃ (C : Addr) (σ' : L2.St), cls = Value.ref C ∧ d = none ∧ G C ∧ σ = List.set σ' i (some (V.ref a)) ∧ ∃ (B : Base X.K) (S : Hp), Step B.S B.H S H ∧ Acc B w0 { nx := fun r => K.nx (r.set i none), bk := fun r => K.bk (r.set i none), ct := fun r => K.ct (r.set i none), rt := K.rt } D) hs hf hN hi hln hc tk
    (fun W' pn xe tk' po => ⟨fun pins s σ H D I ⟨B, q⟩ => (hb W' pn xe tk' po B).run pins s σ H D I q⟩) (fun a oe cls d pn hz hv => ⟨fun pins s σ H D I ⟨C, σ', e1, e2, gC, e3, B, S, st, A⟩ => ?_⟩)).imp fun D σ H ⟨SR, A⟩ => ?_
  · subst e1 e2
    have hl : σ.length = X.N.length := I.len
    have hli : i < X.N.length := (List.getElem?_eq_some_iff.mp hi).1
    refine (hsu C gC a oe pn hz hv B).run pins s σ H D I ⟨⟨S, st.h, st.s, st.sub, st.nw, by simp [hl], fun j s0 h => ?_, fun p q s0 t0 v0 w0 w h1 h2 h3 h4 h5 h6 => ?_⟩, A⟩
    · by_cases hj : i = j
      · subst hj
        rw [List.getElem?_set_self (by simpa using hli)] at h
        cases h
        refine ⟨.ref a, ?_, rfl⟩
        rw [e3, List.getElem?_set_self]
        rw [e3, List.length_set] at hl
        omega
      · rw [List.getElem?_set_ne hj, List.getElem?_replicate] at h
        split at h <;> cases h
    · exfalso
      by_cases hj : i = p
      · subst hj
        rw [List.getElem?_set_self (by simpa using hli)] at h1
        cases h1
        exact h5
      · rw [List.getElem?_set_ne hj, List.getElem?_replicate] at h1
        split at h1 <;> cases h1
  · refine ⟨B, SR, A.nx, A.bk, A.ct, A.rt, fun C σ' H' S' st gC => ⟨true, hm C gC, fun _ a ha => ⟨C, σ', rfl, rfl, gC, rfl, B, S', st, ?_⟩, fun z => by cases z⟩⟩
    have f : ∀ {ρ1 : Rho} {σ1 : L2.St} {H1 S1 : Hp}, Rel B ρ1 σ1 H1 S1 → Rel B (ρ1.set i none) (σ1.set i none) H1 S1 := fun {ρ1 σ1 H1 S1} R1 => by
      have := R1.wipe2 [i]
      exact this
    exact ⟨fun ρ1 σ1 H1 S1 R1 q => A.nx _ _ _ _ (f R1) q, fun ρ1 σ1 H1 S1 R1 q => A.bk _ _ _ _ (f R1) q, fun ρ1 σ1 H1 S1 R1 q => A.ct _ _ _ _ (f R1) q, A.rt, fun C σ1 H1 S1 _ z => z.elim⟩
/-- isinstance(error, C2) in the suite: a class of the text; a built-in one -/
theorem dk_isE {a0 D : Addr} {oe : Obj} {pn : List (Addr × Obj)} {i : Nat} {ne nc : Str} {pe pc : Pos} {cv : Value} {cV : V} (C : ExcC X.K D) (hz : Zc (.ref D) none oe) (hf : ∃ vs, oe.data = .fields vs) (g : Blt (X.suite a0 ((a0, oe) :: pn)) n (.builtin "isinstance"))
    (hc : PE (X.suite a0 ((a0, oe) :: pn)) (.Name nc pc) (tC cV)) (hu : ∀ u, RelV cV u → u = cv) (hk : PySem.W.kitOne X.K (.ref D) cv = some k) (hN : X.N[i]? = some ne) (hv : Vis X.env.scope ne) (hd : (ne == ("__debug__" : Str)) = false) (hcd : (ne == ("__classdict__" : Str)) = false)
    (s : Arg1 (X.suite a0 ((a0, oe) :: pn)) (.Name ne pe) [.Name nc pc] pos) (s2 : starEach [.Name nc pc] X.env = (false, eval (.Name nc pc) X.env) :: starEach [] X.env) (hi : ρ[i]? = some (some (.x a0))) :
    DK (X.suite a0 ((a0, oe) :: pn)) (.Call (.Name n p) [.Name ne pe, .Name nc pc] [] pos) ρ (.bool k) := fun B =>
  (pe_callB (call_isE C hz hf) g.gl g.mg g.bt (pa_cons (pe_var (X := X.suite a0 ((a0, oe) :: pn)) (i := i) hN hv hd hcd) (pa_cons hc pa_nil s2) s.st) g.nn g.nd s.st s.pl).imp fun σ H Q ⟨S, R, q⟩ => by
    obtain ⟨w, h1, h2⟩ := R.sl i _ hi
    have h2 : w = .ref a0 := h2
    subst h2
    exact ⟨_, h1, cV, cv, k, rfl, hu, hk, q _ H S (.refl R.sub) (.bl k)⟩
end
end Dt
namespace Dt
open PySem PySem.Spec PyProof.Rows L2
section
variable {X : Cx} {W : WX} {e a b c : Expr} {es : List Expr} {ρ ρ' : Rho} {x y z : PyData} {xs ys : List PyData} {pos p2 p : Pos} {i j m : Int} {n : Str} {k : Bool} {st : Stmt} {rest body orelse : List Stmt} {K : En}
/-- a <= b <= c of ints, and the like: b asked once -/
theorem dk_chI {op op' : CmpOp} {p1 p2 : Int → Int → Bool} (ho : OpR X (compareOp op) (rI0 fun i j => .bl (p1 i j))) (ho' : OpR X (compareOp op') (rI0 fun i j => .bl (p2 i j))) (hm : lastMarks [op, op'] [b, c] = false) (ha : DE X a ρ (.int i)) (hb : DE X b ρ (.int j)) (hc : DE X c ρ (.int m)) :
    DK X (.Compare a [op, op'] [b, c] pos) ρ (.bool (p1 i j && p2 j m)) := fun B =>
  (pe_chain ho ho' (ha B) (hb B) (hc B) hm).imp fun σ H Q ⟨S, R, q⟩ => ⟨S, R, fun u H1 e1 r1 => ⟨S, R.heap e1, fun v H2 e2 r2 => ⟨i, j, (r1.mono e2).int', r2.int', p1 i j, rfl, by
    cases hp : p1 i j with
    | false =>
      rw [hp] at q
      exact iteF (q _ H2 S (.heap R.sub (e1.trans e2)) (.bl _))
    | true =>
      rw [hp] at q
      exact iteT ⟨S, R.heap (e1.trans e2), fun w H3 e3 r3 => ⟨j, m, (r2.mono e3).int', r3.int', q _ H3 S (.heap R.sub ((e1.trans e2).trans e3)) (.bl _)⟩⟩⟩⟩⟩
theorem dk_lele (ha : DE X a ρ (.int i)) (hb : DE X b ρ (.int j)) (hc : DE X c ρ (.int m)) (hm : lastMarks [.LtE, .LtE] [b, c] = false := by with_unfolding_all rfl) : DK X (.Compare a [.LtE, .LtE] [b, c] pos) ρ (.bool (decide (i ≤ j) && decide (j ≤ m))) := dk_chI op_le op_le hm ha hb hc
theorem dk_lelt (ha : DE X a ρ (.int i)) (hb : DE X b ρ (.int j)) (hc : DE X c ρ (.int m)) (hm : lastMarks [.LtE, .Lt] [b, c] = false := by with_unfolding_all rfl) : DK X (.Compare a [.LtE, .Lt] [b, c] pos) ρ (.bool (decide (i ≤ j) && decide (j < m))) := dk_chI op_le op_lt hm ha hb hc
/-- isinstance, in short -/
theorem isi (T : String) {nt : Str} {pt : Pos} (ha : DE X e ρ x) (m1 : X.mg n = none) (m2 : X.mg nt = none) (h : kitB (clsD x) T = some k := by first | (show kitB _ _ = some true; dsimp only [clsD]; decide +kernel) | (show kitB _ _ = some false; dsimp only [clsD]; decide +kernel)) (g : X.mg n = none → Blt X n (.builtin "isinstance") := by exact fun h => blt h) (gt : X.mg nt = none → Blt X nt (.type T) := by exact fun h => blt h) (s : Arg1 X e [.Name nt pt] pos := by exact a1) (s2 : starEach [.Name nt pt] X.env = (false, eval (.Name nt pt) X.env) :: starEach [] X.env := by rfl) :
    DK X (.Call (.Name n p) [e, .Name nt pt] [] pos) ρ (.bool k) := dk_isi (g m1) (gt m2) ha s s2 h
end
end Dt
namespace Dt
open PySem PySem.Spec PyProof.Rows L2
def isListD : PyData → Bool
  | .list _ => true
  | .dict ((.none, _) :: _) => true
  | _ => false
def isTupD : PyData → Bool
  | .tuple _ => true
  | _ => false
def isIntD : PyData → Bool
  | .int _ => true
  | .bool _ => true
  | _ => false
def isBoolD : PyData → Bool
  | .bool _ => true
  | _ => false
def isStrD : PyData → Bool
  | .str _ => true
  | _ => false
theorem clsD_cases (x : PyData) : (clsD x = "NoneType" ∧ x = .none) ∨ (clsD x = "bool" ∧ ∃ b, x = .bool b) ∨ (clsD x = "int" ∧ ∃ i, x = .int i) ∨ (clsD x = "str" ∧ ∃ i, x = .str i) ∨ (clsD x = "list" ∧ isListD x = true ∧ isTupD x = false ∧ isIntD x = false ∧ isBoolD x = false ∧ isStrD x = false) ∨ (clsD x = "tuple" ∧ ∃ l, x = .tuple l) ∨
    (clsD x = "dict" ∧ isListD x = false ∧ isTupD x = false ∧ isIntD x = false ∧ isBoolD x = false ∧ isStrD x = false) := by
  cases x with
  | none => exact .inl ⟨rfl, rfl⟩
  | bool b => exact .inr (.inl ⟨rfl, b, rfl⟩)
  | int b => exact .inr (.inr (.inl ⟨rfl, b, rfl⟩))
  | str b => exact .inr (.inr (.inr (.inl ⟨rfl, b, rfl⟩)))
  | list b => exact .inr (.inr (.inr (.inr (.inl ⟨rfl, rfl, rfl, rfl, rfl, rfl⟩))))
  | tuple b => exact .inr (.inr (.inr (.inr (.inr (.inl ⟨rfl, b, rfl⟩)))))
  | dict z =>
    cases z with
    | nil => exact .inr (.inr (.inr (.inr (.inr (.inr ⟨rfl, rfl, rfl, rfl, rfl, rfl⟩)))))
    | cons p r =>
      obtain ⟨a, b⟩ := p
      cases a <;> first | exact .inr (.inr (.inr (.inr (.inr (.inr ⟨rfl, rfl, rfl, rfl, rfl, rfl⟩))))) | exact .inr (.inr (.inr (.inr (.inl ⟨rfl, rfl, rfl, rfl, rfl, rfl⟩))))
theorem kit_list (x : PyData) : kitB (clsD x) "list" = some (isListD x) := by
  rcases clsD_cases x with ⟨h, e⟩ | ⟨h, b, e⟩ | ⟨h, b, e⟩ | ⟨h, b, e⟩ | ⟨h, e⟩ | ⟨h, b, e⟩ | ⟨h, e⟩ <;> rw [h] <;> first | (subst e; decide +kernel) | (subst e; show _ = some false; decide +kernel) | (rw [e.1]; decide +kernel)
theorem kit_tuple (x : PyData) : kitB (clsD x) "tuple" = some (isTupD x) := by
  rcases clsD_cases x with ⟨h, e⟩ | ⟨h, b, e⟩ | ⟨h, b, e⟩ | ⟨h, b, e⟩ | ⟨h, e⟩ | ⟨h, b, e⟩ | ⟨h, e⟩ <;> rw [h] <;> first | (subst e; decide +kernel) | (subst e; show _ = some false; decide +kernel) | (subst e; show _ = some true; decide +kernel) | (rw [e.2.1]; decide +kernel)
theorem kit_int (x : PyData) : kitB (clsD x) "int" = some (isIntD x) := by
  rcases clsD_cases x with ⟨h, e⟩ | ⟨h, b, e⟩ | ⟨h, b, e⟩ | ⟨h, b, e⟩ | ⟨h, e⟩ | ⟨h, b, e⟩ | ⟨h, e⟩ <;> rw [h] <;> first | (subst e; decide +kernel) | (subst e; show _ = some false; decide +kernel) | (subst e; show _ = some true; decide +kernel) | (rw [e.2.2.1]; decide +kernel)
theorem kit_bool (x : PyData) : kitB (clsD x) "bool" = some (isBoolD x) := by
  rcases clsD_cases x with ⟨h, e⟩ | ⟨h, b, e⟩ | ⟨h, b, e⟩ | ⟨h, b, e⟩ | ⟨h, e⟩ | ⟨h, b, e⟩ | ⟨h, e⟩ <;> rw [h] <;> first | (subst e; decide +kernel) | (subst e; show _ = some false; decide +kernel) | (subst e; show _ = some true; decide +kernel) | (rw [e.2.2.2.1]; decide +kernel)
theorem kit_str (x : PyData) : kitB (clsD x) "str" = some (isStrD x) := by
  rcases clsD_cases x with ⟨h, e⟩ | ⟨h, b, e⟩ | ⟨h, b, e⟩ | ⟨h, b, e⟩ | ⟨h, e⟩ | ⟨h, b, e⟩ | ⟨h, e⟩ <;> rw [h] <;> first | (subst e; decide +kernel) | (subst e; show _ = some false; decide +kernel) | (subst e; show _ = some true; decide +kernel) | (rw [e.2.2.2.2]; decide +kernel)
end Dt

/-! Dt: more short forms. -/
namespace Dt
open PySem PySem.Spec PyProof.Rows L2
variable {κ : PySem.W.Frag}
section
variable {X : Cx} {W : WX} {e a b c : Expr} {es : List Expr} {ρ ρ' : Rho} {x y z : PyData} {xs ys : List PyData} {pos p2 p : Pos} {i j m : Int} {n : Str} {k : Bool} {st : Stmt} {rest body orelse : List Stmt} {K : En}
theorem scal_I {u v : V} {H : Hp} (h1 : Rp X.K H u (.int i)) (h2 : Rp X.K H v (.int j)) {Q : Bool → Prop} (q : Q (decide (i = j))) : scal u v = true ∧ Q (decide (u = v)) := by
  rw [h1.int', h2.int']
  refine ⟨rfl, ?_⟩
  have : decide (V.int i = V.int j) = decide (i = j) := by
    by_cases h : i = j
    · subst h; simp
    · rw [decide_eq_false h, decide_eq_false fun z => h (V.int.inj z)]
  rw [this]
  exact q
theorem db_eqI (ha : DE X a ρ (.int i)) (hb : DE X b ρ (.int j)) : DB X (.Compare a [.Eq] [b] pos) ρ (decide (i = j)) := db_cmp op_eq ha hb (nomark _) fun u v H Q h1 h2 q => scal_I (Q := fun k => Q (.bl k) H) h1 h2 q
theorem dk_eqI (ha : DE X a ρ (.int i)) (hb : DE X b ρ (.int j)) : DK X (.Compare a [.Eq] [b] pos) ρ (.bool (decide (i = j))) := dk_cmp op_eq ha hb (nomark _) fun u v H Q h1 h2 q => scal_I (Q := fun k => Q (.bl k) H) h1 h2 q
theorem db_neI (ha : DE X a ρ (.int i)) (hb : DE X b ρ (.int j)) : DB X (.Compare a [.NotEq] [b] pos) ρ (!decide (i = j)) := db_cmp op_ne ha hb (nomark _) fun u v H Q h1 h2 q => scal_I (Q := fun k => Q (.bl (!k)) H) h1 h2 q
theorem dk_neI (ha : DE X a ρ (.int i)) (hb : DE X b ρ (.int j)) : DK X (.Compare a [.NotEq] [b] pos) ρ (.bool (!decide (i = j))) := dk_cmp op_ne ha hb (nomark _) fun u v H Q h1 h2 q => scal_I (Q := fun k => Q (.bl (!k)) H) h1 h2 q
variable {m1 m2 : Nat}
theorem dec_nat : decide ((m1 : Int) = (m2 : Int)) = decide (m1 = m2) := by
  by_cases h : m1 = m2
  · subst h; simp
  · rw [decide_eq_false h, decide_eq_false (by omega)]
theorem db_eqN (ha : DE X a ρ (nI m1)) (hb : DE X b ρ (nI m2)) : DB X (.Compare a [.Eq] [b] pos) ρ (decide (m1 = m2)) := (db_eqI ha hb).cast dec_nat
theorem db_neN (ha : DE X a ρ (nI m1)) (hb : DE X b ρ (nI m2)) : DB X (.Compare a [.NotEq] [b] pos) ρ (!decide (m1 = m2)) := (db_neI ha hb).cast (by rw [dec_nat])
theorem dec_lt : decide ((m1 : Int) < (m2 : Int)) = decide (m1 < m2) := by
  by_cases h : m1 < m2
  · rw [decide_eq_true h, decide_eq_true (by omega)]
  · rw [decide_eq_false h, decide_eq_false (by omega)]
theorem dec_le : decide ((m1 : Int) ≤ (m2 : Int)) = decide (m1 ≤ m2) := by
  by_cases h : m1 ≤ m2
  · rw [decide_eq_true h, decide_eq_true (by omega)]
  · rw [decide_eq_false h, decide_eq_false (by omega)]
theorem db_ltN (ha : DE X a ρ (nI m1)) (hb : DE X b ρ (nI m2)) : DB X (.Compare a [.Lt] [b] pos) ρ (decide (m1 < m2)) := (db_lt ha hb).cast dec_lt
theorem db_leN (ha : DE X a ρ (nI m1)) (hb : DE X b ρ (nI m2)) : DB X (.Compare a [.LtE] [b] pos) ρ (decide (m1 ≤ m2)) := (db_le ha hb).cast dec_le
theorem db_gtN (ha : DE X a ρ (nI m1)) (hb : DE X b ρ (nI m2)) : DB X (.Compare a [.Gt] [b] pos) ρ (decide (m2 < m1)) := (db_gt ha hb).cast dec_lt
theorem db_geN (ha : DE X a ρ (nI m1)) (hb : DE X b ρ (nI m2)) : DB X (.Compare a [.GtE] [b] pos) ρ (decide (m2 ≤ m1)) := (db_ge ha hb).cast dec_le
theorem dk_gtN (ha : DE X a ρ (nI m1)) (hb : DE X b ρ (nI m2)) : DK X (.Compare a [.Gt] [b] pos) ρ (.bool (decide (m2 < m1))) := (dk_gt ha hb).cast (by rw [dec_lt])
theorem dk_eqN (ha : DE X a ρ (nI m1)) (hb : DE X b ρ (nI m2)) : DK X (.Compare a [.Eq] [b] pos) ρ (.bool (decide (m1 = m2))) := (dk_eqI ha hb).cast (by rw [dec_nat])
/-! built-ins in short: the last argument says that the module has no such name -/
theorem lenL (ha : DE X e ρ (.list xs)) (mn : X.mg n = none) (g : X.mg n = none → Blt X n (.builtin "len") := by exact fun h => blt h) (s : Arg1 X e [] pos := by exact a1) : DK X (.Call (.Name n p) [e] [] pos) ρ (nI xs.length) := dk_lenL (g mn) ha s
theorem lenT (ha : DE X e ρ (.tuple xs)) (mn : X.mg n = none) (g : X.mg n = none → Blt X n (.builtin "len") := by exact fun h => blt h) (s : Arg1 X e [] pos := by exact a1) : DK X (.Call (.Name n p) [e] [] pos) ρ (nI xs.length) := dk_lenT (g mn) ha s
theorem lenR (ha : DE X e ρ (.dict [(.none, .list xs)])) (mn : X.mg n = none) (g : X.mg n = none → Blt X n (.builtin "len") := by exact fun h => blt h) (s : Arg1 X e [] pos := by exact a1) : DK X (.Call (.Name n p) [e] [] pos) ρ (nI xs.length) := dk_lenR (g mn) ha s
theorem lenS {t : Str} (ha : DE X e ρ (.str t)) (mn : X.mg n = none) (hz : t.length ≤ sizeLine) (g : X.mg n = none → Blt X n (.builtin "len") := by exact fun h => blt h) (s : Arg1 X e [] pos := by exact a1) : DK X (.Call (.Name n p) [e] [] pos) ρ (nI t.length) := dk_lenS (g mn) ha s hz
theorem tupL (ha : DL X e ρ xs) (mn : X.mg n = none) (g : X.mg n = none → Blt X n (.type "tuple") := by exact fun h => blt h) (s : Arg1 X e [] pos := by exact a1) : DK X (.Call (.Name n p) [e] [] pos) ρ (.tuple xs) := dk_tupL (g mn) ha s
theorem listL (ha : DL X e ρ xs) (mn : X.mg n = none) (g : X.mg n = none → Blt X n (.type "list") := by exact fun h => blt h) (s : Arg1 X e [] pos := by exact a1) : DF X (.Call (.Name n p) [e] [] pos) ρ xs := df_listL (g mn) ha s
theorem listT (ha : DK X e ρ (.tuple xs)) (mn : X.mg n = none) (g : X.mg n = none → Blt X n (.type "list") := by exact fun h => blt h) (s : Arg1 X e [] pos := by exact a1) : DF X (.Call (.Name n p) [e] [] pos) ρ xs := df_listT (g mn) ha s
theorem allL {ns : List Bool} (ha : DE X e ρ (.list (ns.map .bool))) (mn : X.mg n = none) (hc : X.calm = true := by rfl) (g : X.mg n = none → Blt X n (.builtin "all") := by exact fun h => blt h) (s : Arg1 X e [] pos := by exact a1) : DK X (.Call (.Name n p) [e] [] pos) ρ (.bool (ns.all id)) := dk_all hc (g mn) ha s
theorem sumL {ns : List Int} (ha : DE X e ρ (.list (ns.map .int))) (mn : X.mg n = none) (hc : X.calm = true := by rfl) (g : X.mg n = none → Blt X n (.builtin "sum") := by exact fun h => blt h) (s : Arg1 X e [] pos := by exact a1) : DK X (.Call (.Name n p) [e] [] pos) ρ (.int ns.sum) := dk_sum hc (g mn) ha s
theorem sum_nat (l : List Nat) : (l.map fun q : Nat => (q : Int)).sum = ((l.sum : Nat) : Int) := by
  induction l with
  | nil => rfl
  | cons a t ih => rw [List.map_cons, List.sum_cons, ih, List.sum_cons]; simp
theorem sumN {ns : List Nat} (ha : DE X e ρ (nL ns)) (mn : X.mg n = none) (hc : X.calm = true := by rfl) (g : X.mg n = none → Blt X n (.builtin "sum") := by exact fun h => blt h) (s : Arg1 X e [] pos := by exact a1) : DK X (.Call (.Name n p) [e] [] pos) ρ (nI ns.sum) := by
  have h : DE X e ρ (.list ((ns.map fun q : Nat => (q : Int)).map .int)) := by
    rw [List.map_map]
    exact ha
  have := dk_sum (n := n) (p := p) (pos := pos) hc (g mn) h s
  rw [sum_nat] at this
  exact this
theorem intB {t : Bool} (ha : DE X e ρ (.bool t)) (mn : X.mg n = none) (g : X.mg n = none → Blt X n (.type "int") := by exact fun h => blt h) (s : Arg1 X e [] pos := by exact a1) : DK X (.Call (.Name n p) [e] [] pos) ρ (.int (if t then 1 else 0)) := dk_intB (g mn) ha s
theorem strI (ha : DE X e ρ (.int i)) (mn : X.mg n = none) (hz : i.natAbs.log2 < 1920) (g : X.mg n = none → Blt X n (.type "str") := by exact fun h => blt h) (s : Arg1 X e [] pos := by exact a1) : DK X (.Call (.Name n p) [e] [] pos) ρ (.str (toString i)) := dk_strI (g mn) ha s hz
/-- a module's number -/
theorem glob {v : Int} (hm : ∃ t, X.mg n = some (.int v t)) (hg : Gl X n := by rfl) (hd : (n == ("__debug__" : Str)) = false := by decide) : DK X (.Name n pos) ρ (.int v) :=
  let ⟨t, h⟩ := hm
  dk_glob hg h (v := V.int v) ⟨t, rfl⟩ (fun _ => .int v) hd
/-! calls of the text's own defs -/
variable {φ : List PyData → Rs → Prop} {M : Nat}
theorem ce (d : Def X n M φ) (ha : DAe X (e :: es) ρ xs) (h : φ xs (.k x)) (hm : xs.length = M := by rfl) (s : Arg1 X e es pos := by exact a1) : DE X (.Call (.Name n p) (e :: es) [] pos) ρ x := de_call d ha s hm h
theorem ck (d : Def X n M φ) (ha : DAk X (e :: es) ρ xs) (h : φ xs (.k x)) (hm : xs.length = M := by rfl) (s : Arg1 X e es pos := by exact a1) : DK X (.Call (.Name n p) (e :: es) [] pos) ρ x := dk_call d ha s hm h
theorem cf (d : Def X n M φ) (ha : DAk X (e :: es) ρ xs) (h : φ xs (.f ys)) (hm : xs.length = M := by rfl) (s : Arg1 X e es pos := by exact a1) : DF X (.Call (.Name n p) (e :: es) [] pos) ρ ys := df_call d ha s hm h
/-- the answer needs no heap: the arguments may be own lists -/
theorem cs (d : Def X n M φ) (ha : DAe X (e :: es) ρ xs) (h : φ xs (.k x)) (hs : scalD x = true := by rfl) (hm : xs.length = M := by rfl) (s : Arg1 X e es pos := by exact a1) : DK X (.Call (.Name n p) (e :: es) [] pos) ρ x := (de_call d ha s hm h).toK hs
theorem cfs (d : Def X n M φ) (ha : DAe X (e :: es) ρ xs) (h : φ xs (.f ys)) (hs : ∀ y ∈ ys, scalD y = true) (hm : xs.length = M := by rfl) (s : Arg1 X e es pos := by exact a1) : DF X (.Call (.Name n p) (e :: es) [] pos) ρ ys := df_calls d ha s hm h hs
theorem cr {C : Addr} (tk : Takes X W) (d : Def X n M φ) (ha : DAe X (e :: es) ρ xs) (h : φ xs (.raise C)) (hm : xs.length = M := by rfl) (s : Arg1 X e es pos := by exact a1) : DR X W (.Call (.Name n p) (e :: es) [] pos) ρ C := dr_call tk d ha s hm h
theorem tb {k : Bool} (h : DE X e ρ (.bool k)) (he : ∀ whole, isTrue e X.env whole = (do let v ← whole; standAt e.pos; holding [v] (truthy v)) := by intro _; rfl) : DB X e ρ k := h.toB he
theorem nmap_scal {l : List Nat} : ∀ y ∈ l.map nI, scalD y = true := fun y h => by
  obtain ⟨q, _, rfl⟩ := List.mem_map.mp h
  rfl
/-! items and slices in short -/
theorem ixT (ha : DK X a ρ (.tuple xs)) (hb : DE X b ρ (.int j)) (h : L2.atI xs j = some x := by rfl) (hs : PlainIx b := by (intro _ _; rfl)) : DK X (.Subscript a b pos) ρ x := dk_ixT ha hb hs h
theorem ixL (ha : DL X a ρ xs) (hb : DE X b ρ (.int j)) (h : L2.atI xs j = some x := by rfl) (hs : PlainIx b := by (intro _ _; rfl)) : DK X (.Subscript a b pos) ρ x := dk_ixL ha hb hs h
theorem atI_map {α : Type} (l : List α) (f : α → PyData) (k : Nat) (d : α) (hk : k < l.length) : L2.atI (l.map f) (k : Int) = some (f (l.getD k d)) := by
  refine atI_nat ?_
  rw [List.getElem?_map, List.getElem?_eq_getElem hk]
  simp [List.getD, List.getElem?_eq_getElem hk]
theorem ixTn {l : List Nat} {q : Nat} (ha : DK X a ρ (nT l)) (hb : DE X b ρ (nI q)) (hk : q < l.length) (hs : PlainIx b := by (intro _ _; rfl)) : DK X (.Subscript a b pos) ρ (nI (l.getD q 0)) := dk_ixT ha hb hs (atI_map l nI q 0 hk)
theorem ixLn {l : List Nat} {q : Nat} (ha : DL X a ρ (l.map nI)) (hb : DE X b ρ (nI q)) (hk : q < l.length) (hs : PlainIx b := by (intro _ _; rfl)) : DK X (.Subscript a b pos) ρ (nI (l.getD q 0)) := dk_ixL ha hb hs (atI_map l nI q 0 hk)
theorem ixM {α : Type} {l : List α} {g : α → PyData} {q : Nat} (d : α) (ha : DL X a ρ (l.map g)) (hb : DE X b ρ (nI q)) (hk : q < l.length) (hs : PlainIx b := by (intro _ _; rfl)) : DK X (.Subscript a b pos) ρ (g (l.getD q d)) := dk_ixL ha hb hs (atI_map l g q d hk)
theorem cutD_map {α : Type} (l : List α) (f : α → PyData) (lo hi : Option Int) : cutD (l.map f) lo hi = ((l.drop (HT.sIx l.length 0 lo)).take (HT.sIx l.length l.length hi - HT.sIx l.length 0 lo)).map f := by
  unfold cutD
  rw [List.length_map, ← List.map_drop, ← List.map_take]
theorem cutD_nn {α : Type} (l : List α) (f : α → PyData) (p q : Nat) (h : p + q ≤ l.length) : cutD (l.map f) (some (p : Int)) (some ((p + q : Nat) : Int)) = ((l.drop p).take q).map f := by
  rw [cutD_map, HT.sIx_nat, HT.sIx_nat, Nat.min_eq_left (by omega), Nat.min_eq_left (by omega), Nat.add_sub_cancel_left]
theorem sl {lo hi : Option Expr} {l u : Option Int} (ha : DL X a ρ xs) (hl : DO X lo ρ l) (hu : DO X hi ρ u) : DF X (.Subscript a (.Slice lo hi none p2) pos) ρ (cutD xs l u) := df_sl ha hl hu
/-! comprehensions in short -/
theorem lc {α : Type} {elt iter tg : Expr} {ifs : List Expr} {scope : Scope} (own : List (Str × Nat)) (L : List α) (E : α → PyData) (f : α → Bool) (g : α → PyData) (ρt : α → Rho)
    (hi : DI X tg iter ρ (L.map E)) (hl : L.length ≤ 16000000)
    (hg : ∀ a, a ∈ L → Blk X scope fun X' => DG X' tg (E a) (wipeR ρ (own.map (·.2))) (ρt a) (own.map (·.2)))
    (ht : ∀ a, a ∈ L → Blk X scope fun X' => ∀ B : Base X'.K, PTs X' ifs (rB B (ρt a) (f a)))
    (he : ∀ a, a ∈ L → f a = true → Blk X scope fun X' => DK X' elt (ρt a) (g a))
    (ok : BlkOk X.N X.env.scope scope own := by (refine blkOk_by ?_; dsimp only [bX, cxOf, envOfC]; decide +kernel)) (hc : X.calm = true := by rfl) (hN : X.N.Nodup := by assumption) (hfs : ∀ x, foldedSetIterable iter X.env x = pure x := by intro _; rfl) : DF X (.ListComp elt [⟨tg, iter, ifs, 0⟩] scope pos) ρ ((L.filter f).map g) :=
  df_lc L E f g ρt hc hN ok hfs hi hl hg ht he
theorem lc1 {α : Type} {elt iter tg : Expr} {scope : Scope} (own : List (Str × Nat)) (L : List α) (E : α → PyData) (g : α → PyData) (ρt : α → Rho)
    (hi : DI X tg iter ρ (L.map E)) (hl : L.length ≤ 16000000)
    (hg : ∀ a, a ∈ L → Blk X scope fun X' => DG X' tg (E a) (wipeR ρ (own.map (·.2))) (ρt a) (own.map (·.2)))
    (he : ∀ a, a ∈ L → Blk X scope fun X' => DK X' elt (ρt a) (g a))
    (ok : BlkOk X.N X.env.scope scope own := by (refine blkOk_by ?_; dsimp only [bX, cxOf, envOfC]; decide +kernel)) (hc : X.calm = true := by rfl) (hN : X.N.Nodup := by assumption) (hfs : ∀ x, foldedSetIterable iter X.env x = pure x := by intro _; rfl) : DF X (.ListComp elt [⟨tg, iter, [], 0⟩] scope pos) ρ (L.map g) := by
  have := df_lc (pos := pos) L E (fun _ => true) g ρt hc hN ok hfs hi hl hg (fun a ha s H C cl fp B => ⟨fun pins s σ H Q I ⟨S, R, q⟩ => wpAny_tests_nil ⟨H, I, q H (Ex.refl _)⟩⟩) fun a ha _ => he a ha
  rw [List.filter_eq_self.mpr (fun _ _ => rfl)] at this
  exact this
theorem pts1 {X : Cx} {c : Expr} {ρ : Rho} {k : Bool} (h : DB X c ρ k) : ∀ B : Base X.K, PTs X [c] (rB B ρ k) := fun B => pts_one (h B)
end
end Dt

/-! Dt: facts on equality of data; more short forms. -/
namespace Dt
open PySem PySem.Spec PyProof.Rows L2
variable {κ : PySem.W.Frag}
theorem canLay_all {xs : List PyData} (h : ∀ x ∈ xs, x.canLay0 = true) : PyData.canLayAll0 xs = true := by
  induction xs with
  | nil => simp [PyData.canLayAll0]
  | cons a r ih => simp [PyData.canLayAll0, h a List.mem_cons_self, ih fun x hx => h x (List.mem_cons_of_mem _ hx)]
theorem depth_all {xs : List PyData} {k : Nat} (h : ∀ x ∈ xs, x.depth ≤ k) : PyData.depthAll xs ≤ k := by
  induction xs with
  | nil => simp [PyData.depthAll]
  | cons a r ih =>
    have := h a List.mem_cons_self
    have := ih fun x hx => h x (List.mem_cons_of_mem _ hx)
    simp only [PyData.depthAll]
    omega
/-- data that can be compared, of depth at most k -/
def shp (k : Nat) (x : PyData) : Prop := x.canLay0 = true ∧ x.depth ≤ k
theorem shp.ok {k : Nat} {x : PyData} (h : shp k x) (hk : k ≤ 64 := by decide) : SeqAt.shaped x = true := by
  unfold SeqAt.shaped
  rw [h.1, decide_eq_true (Nat.le_trans h.2 hk)]
  rfl
theorem shp.mono {k k' : Nat} {x : PyData} (h : shp k x) (hk : k ≤ k') : shp k' x := ⟨h.1, Nat.le_trans h.2 hk⟩
theorem shp_int {k : Nat} {i : Int} : shp k (.int i) := ⟨by simp [PyData.canLay0], by simp [PyData.depth]⟩
theorem shp_bool {k : Nat} {i : Bool} : shp k (.bool i) := ⟨by simp [PyData.canLay0], by simp [PyData.depth]⟩
theorem shp_none {k : Nat} : shp k .none := ⟨by simp [PyData.canLay0], by simp [PyData.depth]⟩
theorem shp_list {k : Nat} {xs : List PyData} (h : ∀ x ∈ xs, shp k x) : shp (k + 1) (.list xs) :=
  ⟨by simp only [PyData.canLay0]; exact canLay_all fun x hx => (h x hx).1, by simp only [PyData.depth]; have := depth_all fun x hx => (h x hx).2; omega⟩
theorem shp_tuple {k : Nat} {xs : List PyData} (h : ∀ x ∈ xs, shp k x) : shp (k + 1) (.tuple xs) :=
  ⟨by simp only [PyData.canLay0]; exact canLay_all fun x hx => (h x hx).1, by simp only [PyData.depth]; have := depth_all fun x hx => (h x hx).2; omega⟩
theorem shp_nL {k : Nat} {l : List Nat} : shp (k + 1) (nL l) := shp_list fun x hx => by
  obtain ⟨q, _, rfl⟩ := List.mem_map.mp hx
  exact shp_int
theorem shp_nT {k : Nat} {l : List Nat} : shp (k + 1) (nT l) := shp_tuple fun x hx => by
  obtain ⟨q, _, rfl⟩ := List.mem_map.mp hx
  exact shp_int
theorem eqvAll_map {α : Type} [DecidableEq α] {f : α → PyData} (h : ∀ a b, PyData.eqv (f a) (f b) = decide (a = b)) : ∀ l l' : List α, PyData.eqvAll (l.map f) (l'.map f) = decide (l = l')
  | [], [] => by simp [PyData.eqvAll]
  | [], _ :: _ => by simp [PyData.eqvAll]
  | _ :: _, [] => by simp [PyData.eqvAll]
  | a :: r, b :: r' => by
    simp only [List.map_cons, PyData.eqvAll, h a b, eqvAll_map h r r']
    by_cases e : a = b <;> by_cases e' : r = r' <;> simp [e, e']
theorem eqv_int {i j : Int} : PyData.eqv (.int i) (.int j) = decide (i = j) := by
  simp only [PyData.eqv]
  by_cases h : i = j <;> simp [h]
theorem eqv_nI {i j : Nat} : PyData.eqv (nI i) (nI j) = decide (i = j) := by rw [eqv_int, dec_nat]
theorem eqv_nL {l l' : List Nat} : PyData.eqv (nL l) (nL l') = decide (l = l') := by
  simp only [nL, PyData.eqv]
  exact eqvAll_map (fun _ _ => eqv_nI) l l'
theorem eqv_nT {l l' : List Nat} : PyData.eqv (nT l) (nT l') = decide (l = l') := by
  simp only [nT, PyData.eqv]
  exact eqvAll_map (fun _ _ => eqv_nI) l l'
theorem eqv_list {l l' : List PyData} : PyData.eqv (.list l) (.list l') = PyData.eqvAll l l' := by simp only [PyData.eqv]
theorem eqv_tuple {l l' : List PyData} : PyData.eqv (.tuple l) (.tuple l') = PyData.eqvAll l l' := by simp only [PyData.eqv]
theorem map_nI {α : Type} (L : List α) (f : α → Nat) : L.map (fun k => nI (f k)) = (L.map f).map nI := by
  rw [List.map_map]
  rfl
theorem int_nI {i : Int} (h : 0 ≤ i) : PyData.int i = nI i.toNat := by
  show _ = PyData.int _
  rw [Int.toNat_of_nonneg h]
section
variable {X : Cx} {W : WX} {e a b c : Expr} {es : List Expr} {ρ ρ' : Rho} {x y z : PyData} {xs ys : List PyData} {pos p2 p : Pos} {i j m : Int} {n : Str} {k : Bool} {st : Stmt} {rest body orelse : List Stmt} {K : En}
theorem lst (h : DAk X es ρ xs) (hl : Nat.ble xs.length 1000 = true := by rfl) : DF X (.List es pos) ρ xs := df_lst h (Nat.le_trans (Nat.le_of_ble_eq_true hl) (by rw [sizeLine_eq]; decide))
theorem tup {k : Nat} (h : DAk X es ρ xs) (hl : Nat.ble xs.length 1000 = true := by rfl) : DK X (.Tuple es k pos) ρ (.tuple xs) := dk_tup h (Nat.le_trans (Nat.le_of_ble_eq_true hl) (by rw [sizeLine_eq]; decide))
theorem db_eqL {q : Nat} (hr : Room q X.A) {l l' : List Nat} (ha : DE X a ρ (nL l)) (hb : DE X b ρ (nL l')) : DB X (.Compare a [.Eq] [b] pos) ρ (decide (l = l')) := (db_eqD hr ha hb (shp_nL (k := 0)).ok (shp_nL (k := 0)).ok).cast eqv_nL
theorem db_neL {q : Nat} (hr : Room q X.A) {l l' : List Nat} (ha : DE X a ρ (nL l)) (hb : DE X b ρ (nL l')) : DB X (.Compare a [.NotEq] [b] pos) ρ (!decide (l = l')) := (db_neD hr ha hb (shp_nL (k := 0)).ok (shp_nL (k := 0)).ok).cast (by rw [eqv_nL])
theorem dk_eqL {q : Nat} (hr : Room q X.A) {l l' : List Nat} (ha : DE X a ρ (nL l)) (hb : DE X b ρ (nL l')) : DK X (.Compare a [.Eq] [b] pos) ρ (.bool (decide (l = l'))) := (dk_eqD hr ha hb (shp_nL (k := 0)).ok (shp_nL (k := 0)).ok).cast (by rw [eqv_nL])
theorem dk_modZ (ha : DE X a ρ (.int i)) (hb : DE X b ρ (.int j)) (hc : 0 < j) : DK X (.BinOp a .Mod b pos) ρ (nI (i % j).toNat) := (dk_mod ha hb hc).cast (int_nI (Int.emod_nonneg _ (by omega)))
theorem atI2 (x y : PyData) (i : Int) : L2.atI [x, y] (i % 2) = some (if i % 2 = 0 then x else y) := by
  rcases Int.emod_two_eq i with h | h <;> rw [h] <;> rfl
/-- an item of a menu by a number below its length -/
theorem atI_menu {α : Type} (l : List α) (f : α → PyData) (i : Int) (d : α) (h0 : 0 ≤ i) (hk : i < (l.length : Int)) : L2.atI (l.map f) i = some (f (l.getD i.toNat d)) := by
  have := atI_map l f i.toNat d (by omega)
  rw [Int.toNat_of_nonneg h0] at this
  exact this
end
end Dt

/-! Dt: methods of own lists; an empty dict kept; isinstance in a suite. -/
namespace Dt
open PySem PySem.Spec PyProof.Rows L2
variable {κ : PySem.W.Frag}
section
variable {X : Cx} {W : WX} {e e2 a b c : Expr} {es : List Expr} {ρ ρ' : Rho} {x y z : PyData} {xs ys : List PyData} {pos p2 p : Pos} {i j m : Int} {n : Str} {k : Bool} {st : Stmt} {rest body orelse : List Stmt} {K : En}
/-- name.m(..): an own list's method that changes it -/
theorem ds_lmeth (i : Nat) {id : String} {r : V → List V → Hp → VK → Prop} {meth : Str} {xs' : List PyData} {pn ap cp : Pos} (slot : Slot "list" meth id) (hty : typeOf (.builtin id) = pure (.type "method_descriptor")) (hm : MtR X id r)
    (hN : X.N[i]? = some n) (hv : Vis X.env.scope n) (hd : (n == ("__debug__" : Str)) = false) (hcd : (n == ("__classdict__" : Str)) = false)
    (hbase : attributeBase (.Name n pn) meth X.env (eval (.Name n pn) X.env) = eval (.Name n pn) X.env)
    (hfew : ((backTo cp (starEach (e :: es) X.env)).all (fun x => !x.1) && (backToKw cp (keywordEach [] X.env)).all (fun x => x.1.isSome)
      && decide ((e :: es).length + ([] : List Keyword).length + (if ([] : List Keyword).isEmpty then 0 else 1) < 30)) = true)
    (hline : (ap.endLine == cp.line) = true) (g : Arg1 X e es cp) (hs : swapsWith (.Call (.Attribute (.Name n pn) meth ap) (e :: es) [] cp) none pos.line X.env = pure false)
    (hi : ρ[i]? = some (some (.l xs))) (he : DAk X (e :: es) ρ ys)
    (hr : ∀ p vs ws H (Q : VK) S, H p = some (.lst vs) → RpA X.K S vs xs → RpA X.K S ws ys → (∀ vs', RpA X.K S vs' xs' → Q .non (upd H p (.lst vs'))) → r (.ref p) ws H Q) (h : K.nx (ρ.set i (some (.l xs')))) :
    DS X W (.Expr (.Call (.Attribute (.Name n pn) meth ap) (e :: es) [] cp) pos) ρ K := fun B =>
  (ps_expr (pe_bm PySem.F.plainAttrs_list slot hty hm (pe_var hN hv hd hcd) (he B) hbase hfew hline g.st g.pl) hs).imp fun D σ H ⟨⟨S, R⟩, A⟩ => by
    obtain ⟨v, h1, p, vs, rfl, h2, h3, h4, h5⟩ := R.sl i _ hi
    refine ⟨_, h1, .inl ⟨rfl, vs, .of h4⟩, S, R, fun ws H2 S2 t r1 => ?_⟩
    have R1 := R.step t
    have hs2 : S2 p = none := by
      obtain ⟨v', k1, p', vs', k2, k3, k4, k5, k6⟩ := R1.sl i _ hi
      rw [h1] at k1; cases k1; cases k2
      exact k4
    exact hr p vs ws H2 _ S2 (t.h _ _ h4) (h5.mono t.s) r1 fun vs' r' => A.nx _ _ _ S2 (R1.mutO hi h1 rfl (s' := .l xs') (fun q hq => .inl hq) ⟨p, _, rfl, h2, hs2, upd_same, r'⟩) h
/-- name.m(): without arguments -/
theorem ds_lmeth0 (i : Nat) {id : String} {r : V → List V → Hp → VK → Prop} {meth : Str} {xs' : List PyData} {pn ap cp : Pos} (slot : Slot "list" meth id) (hty : typeOf (.builtin id) = pure (.type "method_descriptor")) (hm : MtR X id r)
    (hN : X.N[i]? = some n) (hv : Vis X.env.scope n) (hd : (n == ("__debug__" : Str)) = false) (hcd : (n == ("__classdict__" : Str)) = false)
    (hbase : attributeBase (.Name n pn) meth X.env (eval (.Name n pn) X.env) = eval (.Name n pn) X.env)
    (hline : (ap.endLine == cp.line) = true) (hs : swapsWith (.Call (.Attribute (.Name n pn) meth ap) [] [] cp) none pos.line X.env = pure false)
    (hi : ρ[i]? = some (some (.l xs)))
    (hr : ∀ p vs H (Q : VK) S, H p = some (.lst vs) → RpA X.K S vs xs → (∀ vs', RpA X.K S vs' xs' → Q .non (upd H p (.lst vs'))) → r (.ref p) [] H Q) (h : K.nx (ρ.set i (some (.l xs')))) :
    DS X W (.Expr (.Call (.Attribute (.Name n pn) meth ap) [] [] cp) pos) ρ K := fun B =>
  (ps_expr (pe_bm0 PySem.F.plainAttrs_list slot hty hm (pe_var hN hv hd hcd) hbase hline) hs).imp fun D σ H ⟨⟨S, R⟩, A⟩ => by
    obtain ⟨v, h1, p, vs, rfl, h2, h3, h4, h5⟩ := R.sl i _ hi
    refine ⟨_, h1, .inl ⟨rfl, vs, .of h4⟩, ?_⟩
    exact hr p vs H _ S h4 h5 fun vs' r' => A.nx _ _ _ S (R.mutO hi h1 rfl (s' := .l xs') (fun q hq => .inl hq) ⟨p, _, rfl, h2, h3, upd_same, r'⟩) h
/-- name.insert(0, x) -/
theorem ins0 (i : Nat) {pn ap cp p3 : Pos} {kk : Nat} (he : DK X e ρ x) (hz : xs.length < sizeLine) (h : K.nx (ρ.set i (some (.l (x :: xs))))) (hi : ρ[i]? = some (some (.l xs)) := by rfl) (hN : X.N[i]? = some n := by rfl) (hv : Vis X.env.scope n := by first | exact Or.inl rfl | exact Or.inr (Or.inl rfl) | exact Or.inr (Or.inr rfl)) (hd : (n == ("__debug__" : Str)) = false := by decide) (hcd : (n == ("__classdict__" : Str)) = false := by decide)
    (hbase : attributeBase (.Name n pn) "insert" X.env (eval (.Name n pn) X.env) = eval (.Name n pn) X.env := by rfl)
    (hfew : ((backTo cp (starEach (.Constant (.int 0) kk p3 :: [e]) X.env)).all (fun x => !x.1) && (backToKw cp (keywordEach [] X.env)).all (fun x => x.1.isSome)
      && decide ((Expr.Constant (.int 0) kk p3 :: [e]).length + ([] : List Keyword).length + (if ([] : List Keyword).isEmpty then 0 else 1) < 30)) = true := by rfl)
    (hline : (ap.endLine == cp.line) = true := by rfl) (g : Arg1 X (.Constant (.int 0) kk p3) [e] cp := by exact a1) (g2 : starEach [e] X.env = (false, eval e X.env) :: starEach [] X.env := by rfl)
    (hs : swapsWith (.Call (.Attribute (.Name n pn) "insert" ap) [.Constant (.int 0) kk p3, e] [] cp) none pos.line X.env = pure false := by rfl) :
    DS X W (.Expr (.Call (.Attribute (.Name n pn) "insert" ap) [.Constant (.int 0) kk p3, e] [] cp) pos) ρ K :=
  ds_lmeth i (ys := [.int 0, x]) (xs' := x :: xs) PySem.F.slot_list_insert PySem.F.type_list_insert mt_insert hN hv hd hcd hbase hfew hline g hs hi (dak_cons dk_int (dak_cons he dak_nil g2) g.st) (fun p vs ws H Q S h1 h2 h3 q => by
    obtain ⟨u, w, rfl, h4, h5⟩ := h3.two'
    refine ⟨p, vs, 0, w, rfl, by rw [h4.int'], h1, by rw [h2.length]; exact hz, by decide, by decide, ?_⟩
    exact q _ (.cons h5 h2)) h
/-- name.clear() -/
theorem clr (i : Nat) {pn ap cp : Pos} (h : K.nx (ρ.set i (some (.l [])))) (hi : ρ[i]? = some (some (.l xs)) := by rfl) (hN : X.N[i]? = some n := by rfl) (hv : Vis X.env.scope n := by first | exact Or.inl rfl | exact Or.inr (Or.inl rfl) | exact Or.inr (Or.inr rfl)) (hd : (n == ("__debug__" : Str)) = false := by decide) (hcd : (n == ("__classdict__" : Str)) = false := by decide)
    (hbase : attributeBase (.Name n pn) "clear" X.env (eval (.Name n pn) X.env) = eval (.Name n pn) X.env := by rfl)
    (hline : (ap.endLine == cp.line) = true := by rfl) (hs : swapsWith (.Call (.Attribute (.Name n pn) "clear" ap) [] [] cp) none pos.line X.env = pure false := by rfl) :
    DS X W (.Expr (.Call (.Attribute (.Name n pn) "clear" ap) [] [] cp) pos) ρ K :=
  ds_lmeth0 i (xs' := []) PySem.F.slot_list_clear PySem.F.type_list_clear mt_clear hN hv hd hcd hbase hline hs hi (fun p vs H Q S h1 h2 q => ⟨p, vs, rfl, rfl, h1, q _ .nil⟩) h
/-- {} -/
theorem dk_dict0 : DK X (.Dict [] [] pos) ρ (.dict []) := fun B => pe_dnewT.imp fun σ H Q ⟨S, R, q⟩ p hp => by
  have hs : S p = none := R.sub.back hp
  exact q (.ref p) _ _ (.new R.sub hp) (.dT (Or.inl upd_same) .nil)
/-- isinstance(error, C) in a suite -/
theorem isE {a0 D D2 : Addr} {oe : Obj} {pn : List (Addr × Obj)} {ne nc : Str} {pe pc : Pos} (C : ExcC X.K D) (hz : Zc (.ref D) none oe) (hf : ∃ vs, oe.data = .fields vs) (mi : X.mg n = none) (mc : X.mg nc = some (.ref D2))
    (hk : PySem.W.kitOne X.K (.ref D) (.ref D2) = some k) (i : Nat) (hi : ρ[i]? = some (some (.x a0)) := by rfl) (hN : X.N[i]? = some ne := by rfl) (hv : Vis X.env.scope ne := by first | exact Or.inl rfl | exact Or.inr (Or.inl rfl) | exact Or.inr (Or.inr rfl)) (hd : (ne == ("__debug__" : Str)) = false := by decide) (hcd : (ne == ("__classdict__" : Str)) = false := by decide)
    (g : X.mg n = none → Blt (X.suite a0 ((a0, oe) :: pn)) n (.builtin "isinstance") := by exact fun h => blt h) (gc : Gl (X.suite a0 ((a0, oe) :: pn)) nc := by rfl) (hdc : (nc == ("__debug__" : Str)) = false := by decide)
    (s : Arg1 (X.suite a0 ((a0, oe) :: pn)) (.Name ne pe) [.Name nc pc] pos := by exact a1) (s2 : starEach [.Name nc pc] X.env = (false, eval (.Name nc pc) X.env) :: starEach [] X.env := by rfl) :
    DK (X.suite a0 ((a0, oe) :: pn)) (.Call (.Name n p) [.Name ne pe, .Name nc pc] [] pos) ρ (.bool k) :=
  dk_isE C hz hf (g mi) (pe_glob (v := .ref D2) gc mc rfl hdc) (fun u h => h) hk hN hv hd hcd s s2 hi
theorem isEV {a0 D : Addr} {oe : Obj} {pn : List (Addr × Obj)} {ne nc : Str} {T : String} {pe pc : Pos} (C : ExcC X.K D) (hz : Zc (.ref D) none oe) (hf : ∃ vs, oe.data = .fields vs) (mi : X.mg n = none) (mc : X.mg nc = none)
    (hk : PySem.W.kitOne X.K (.ref D) (.type T) = some k) (i : Nat) (hi : ρ[i]? = some (some (.x a0)) := by rfl) (hN : X.N[i]? = some ne := by rfl) (hv : Vis X.env.scope ne := by first | exact Or.inl rfl | exact Or.inr (Or.inl rfl) | exact Or.inr (Or.inr rfl)) (hd : (ne == ("__debug__" : Str)) = false := by decide) (hcd : (ne == ("__classdict__" : Str)) = false := by decide)
    (g : X.mg n = none → Blt (X.suite a0 ((a0, oe) :: pn)) n (.builtin "isinstance") := by exact fun h => blt h) (gc : X.mg nc = none → Blt (X.suite a0 ((a0, oe) :: pn)) nc (.type T) := by exact fun h => blt h)
    (s : Arg1 (X.suite a0 ((a0, oe) :: pn)) (.Name ne pe) [.Name nc pc] pos := by exact a1) (s2 : starEach [.Name nc pc] X.env = (false, eval (.Name nc pc) X.env) :: starEach [] X.env := by rfl) :
    DK (X.suite a0 ((a0, oe) :: pn)) (.Call (.Name n p) [.Name ne pe, .Name nc pc] [] pos) ρ (.bool k) :=
  dk_isE C hz hf (g mi) (pe_bltn (v := .ty T) (gc mc).gl (gc mc).mg (gc mc).bt rfl (gc mc).nn (gc mc).nd) (fun u h => h) hk hN hv hd hcd s s2 hi
end
end Dt

/-! Dt: the end of a law. -/
namespace Dt
open PySem PySem.Spec PyProof.Rows L2
abbrev scrD (ns : List Int) : PyData := .dict [(.none, .list (ns.map .int))]
theorem cx_no {P : Program} {w : World} {H : Hp} {s s' : Shared} {e : Value} (h : L2.CX P w [] H s (fun _ _ _ => False) e s') : False := by
  obtain ⟨a, B, H', cls, d, h1, h2, h3, h4, h5, h6, h7, h8⟩ := h
  exact h8
theorem sp_law {K : PySem.W.Frag} {H : Hp} {a : Addr} {ns : List Int} {φ : List PyData → Rs → Prop} (hO : L2.Only H) (hS : L2.SqL K H a (ns.map V.int)) (h : φ [scrD ns] (.k (.bool true))) : spD K φ 1 [.ref a] H (fun v _ => v = .bl true) (fun _ _ _ => False) := by
  have ri : ∀ l : List Int, RpA K H (l.map V.int) (l.map .int) := fun l => by
    induction l with
    | nil => exact .nil
    | cons i r ih => exact .cons (.int i) ih
  refine ⟨H, [scrD ns], _, Ex.refl _, .one ?_, h, rfl, fun v H' ⟨S', t, r⟩ => ?_, fun C hC => by cases hC⟩
  · rcases hS with (hS | ⟨o, hS⟩) | hS
    · rcases hO a with z | ⟨o, xs, z⟩ <;> rw [hS] at z <;> cases z
    · exact .scr hS (ri ns)
    · exact .own hS (ri ns)
  · cases r
    rfl
theorem walk_ofD {l : PySem.W.OpenLaw} {n k : Nat} {q : Program} {loose : List Str} {XP : (Str → Option Value) → Heap → Prop} {YP : World → Heap → Prop} {d : DefRec} {K : Params → PySem.W.Frag} {x : Str} (φ : List PyData → Rs → Prop)
    (hn : l.most = some n) (hn2 : n ≤ sizeLine) (hdf : d.params.defaults = []) (hr : Room k callerA)
    (hY : ∀ (w : World) (h : Heap), YP w h → (K w.params).In h)
    (hφ : ∀ ns : List Int, ns.length ≤ n → φ [scrD ns] (.k (.bool true)))
    (F : ∀ (w : World) (mg : Str → Option Value) (fa : Addr) (h : Heap), (K w.params).In h → h.Ns mainGlobals mg → mg d.name = some (.ref fa) →
      ∃ fd : FuncData, (∀ (s : Shared) (u : Value), BindsTo s fd ⟨[u], []⟩ [(x, u)]) ∧
        ∀ base : Heap, (K w.params).In base → base.Ns mainGlobals mg → FnOk l.prog w (K w.params) mg base (L2.CX l.prog w) k fa fd [x] (spD (K w.params) φ 1)) :
    PySem.W.WalkO q loose XP YP l.row.toRowW d [] (fun f vs => PySem.call f vs) :=
  walk_of (CX := fun w => L2.CX l.prog w) (sp := fun w => spD (K w.params) φ 1) hn hn2 hdf hr hY F (fun w H a ns hl hO hS => sp_law hO hS (hφ ns hl)) fun w H s e s' z => cx_no z
end Dt
namespace Dt
open PySem PySem.Spec PyProof.Rows L2
section
variable {K : PySem.W.Frag} {C D : Addr}
theorem beq_no {a b : Addr} (h : a ≠ b) : (Value.ref a == Value.ref b) = false := by
  rw [Bool.eq_false_iff]
  intro z
  have z' : Value.ref a = Value.ref b := beq_iff_eq.mp z
  cases z'
  exact h rfl
theorem kit_self : PySem.W.kitOne K (.ref C) (.ref C) = some true := by
  unfold PySem.W.kitOne
  rw [if_pos (by simp)]
theorem kitCls_sub {b : Bool} (h1 : PySem.W.isClsIn K D = true) (h2 : PySem.W.typeIn K (.ref D) = some (.type "type")) (h3 : PySem.W.subIn K (.ref C) (.ref D) = some b) : PySem.W.kitCls K (.ref C) (.ref D) = some b := by
  have e2 : ((PySem.W.clsIn K D).isSome && PySem.W.typeIn K (.ref D) == some (.type "type")) = true := by
    have h1' : (PySem.W.clsIn K D).isSome = true := h1
    rw [h1', h2] <;> rfl
  show (if ((PySem.W.clsIn K D).isSome && PySem.W.typeIn K (.ref D) == some (.type "type")) = true then PySem.W.subIn K (.ref C) (.ref D) else none) = some b
  rw [if_pos e2]
  exact h3
theorem kit_sub {b : Bool} (h0 : C ≠ D) (h1 : PySem.W.isClsIn K D = true) (h2 : PySem.W.typeIn K (.ref D) = some (.type "type")) (h3 : PySem.W.subIn K (.ref C) (.ref D) = some b) : PySem.W.kitOne K (.ref C) (.ref D) = some b := by
  unfold PySem.W.kitOne
  rw [if_neg (by rw [beq_no h0]; exact Bool.false_ne_true)]
  exact kitCls_sub h1 h2 h3
theorem exm_sub (h0 : PySem.W.subIn K (.ref D) (.type "BaseException") = some true) (h1 : PySem.W.isClsIn K D = true) (h2 : PySem.W.typeIn K (.ref D) = some (.type "type")) (h3 : PySem.W.subIn K (.ref C) (.ref D) = some true) : PySem.W.exmOne K (.ref C) (.ref D) = some true := by
  have e1 : (PySem.W.subIn K (.ref D) (.type "BaseException") == some true) = true := by rw [h0] <;> rfl
  show (if (PySem.W.subIn K (.ref D) (.type "BaseException") == some true) = true then PySem.W.kitCls K (.ref C) (.ref D) else none) = some true
  rw [if_pos e1]
  exact kitCls_sub h1 h2 h3
theorem kit_val {b : Bool} (h3 : PySem.W.subIn K (.ref C) (.type "ValueError") = some b) : PySem.W.kitOne K (.ref C) (.type "ValueError") = some b := by
  unfold PySem.W.kitOne
  rw [if_neg fun h => by have h2 := beq_iff_eq.mp h; cases h2]
  show (if PySem.W.kitMeta "ValueError" = true then PySem.W.subIn K (.ref C) (.type "ValueError") else none) = some b
  rw [if_pos (by decide +kernel)]
  exact h3
end
end Dt

/-! Dt: an own list of pairs of own lists. -/
namespace Dt
open PySem PySem.Spec PyProof.Rows L2
variable {κ : PySem.W.Frag}
section
variable {X : Cx} {W : WX} {e e1 e2 a b c : Expr} {es : List Expr} {ρ ρ' : Rho} {x y z : PyData} {xs ys : List PyData} {pos p2 p : Pos} {i j m : Int} {n : Str} {k : Bool} {st : Stmt} {rest body orelse : List Stmt} {K : En}
theorem fpL_append (l l' : List (Addr × Addr × Addr)) : fpL (l ++ l') = fpL l ++ fpL l' := by unfold fpL; rw [List.flatMap_append]
theorem mem_fpL {l : List (Addr × Addr × Addr)} {q : Addr} : q ∈ fpL l ↔ ∃ e ∈ l, q = e.2.1 ∨ q = e.2.2 := by
  unfold fpL
  rw [List.mem_flatMap]
  simp
/-- name = [] begun as a list of pairs -/
theorem dss_pp (i : Nat) (hi : ρ[i]? = some (some (.l []))) (h : ∀ a, DSs X W body (ρ.set i (some (.pp a [] []))) K) : DSs X W body ρ K := fun B =>
  ⟨fun pins s σ H D I ⟨⟨S, R⟩, A⟩ => by
    obtain ⟨v, h1, p, vs, rfl, h2, h3, h4, h5⟩ := R.sl i _ hi
    cases h5
    have e : upd H p (.lst []) = H := by
      funext b
      by_cases hb : b = p
      · subst hb; rw [upd_same, h4]
      · rw [upd_ne hb]
    have R2 := R.mutO (o := .lst []) hi h1 rfl (s' := .pp p [] []) (fun q hq => by
      rcases hq with rfl | ⟨_, z, _⟩
      · exact .inl rfl
      · cases z) ⟨rfl, h2, h3, upd_same, by simp [fpL], .nil⟩
    rw [e] at R2
    exact (h p B).run pins s σ H D I ⟨⟨S, R2⟩, A⟩⟩
/-- a new pair of new lists -/
def rPr (B : Base κ) (ρ : Rho) (xs ys : List PyData) : TE := fun σ H Q => ∃ S, Rel B ρ σ H S ∧ ∀ t q r vs ws H2 S2, Step S H S2 H2 → H q = none → H r = none → q ≠ r → S2 q = none → S2 r = none → H2 q = some (.lst vs) → H2 r = some (.lst ws) → H2 t = some (.tup [.ref q, .ref r]) → RpA κ S2 vs xs → RpA κ S2 ws ys → Q (.ref t) H2
theorem dpr {kk : Nat} (h1 : DF X e1 ρ xs) (h2 : DF X e2 ρ ys) (s1 : starEach [e1, e2] X.env = (false, eval e1 X.env) :: starEach [e2] X.env) (s2 : starEach [e2] X.env = (false, eval e2 X.env) :: starEach [] X.env) : ∀ B : Base X.K, PE X (.Tuple [e1, e2] kk pos) (rPr B ρ xs ys) := fun B =>
  (pe_tup (pa_cons (h1 B) (pa_cons (h2 B) pa_nil s2) s1)).imp fun σ H Q ⟨S, R, q⟩ => ⟨S, R, fun p1 vs H1 S1 t1 a1 a2 a3 a4 => ⟨S1, R.step t1, fun p2 ws H2 S2 t2 b1 b2 b3 b4 => ⟨by rw [sizeLine_eq]; exact Nat.le_of_ble_eq_true rfl, fun t ht => by
    have hne : p1 ≠ p2 := fun z => by rw [← z, a3] at b1; cases b1
    have hs : S2 p1 = none := by
      cases z : S2 p1 with
      | none => rfl
      | some u =>
        rcases t2.nw p1 u z a2 with w | ⟨_, w⟩ <;> rw [a3] at w <;> cases w
    have e3 : Ex H2 (upd H2 t (.tup [.ref p1, .ref p2])) := Ex.new ht
    exact q t p1 p2 vs ws _ S2 ((t1.trans t2).trans (.heap t2.sub e3)) a1 (t1.h.back b1) hne hs b2 (e3 _ _ (t2.h _ _ a3)) (e3 _ _ b3) upd_same (a4.mono t2.s) b4⟩⟩⟩
theorem OwnAt.upd {B : Base κ} {S H : Hp} {p q : Addr} {xs : List PyData} {o : HO} (h : OwnAt B S H q xs) (hq : q ≠ p) : OwnAt B S (upd H p o) q xs := by
  obtain ⟨vs, m1, m2, m3, m4⟩ := h
  exact ⟨vs, m1, m2, by rw [upd_ne hq]; exact m3, m4⟩
theorem paired_upd {B : Base κ} {S H : Hp} {p : Addr} {o u : HO} (hu : H p = some u) (ht : ∀ xs, u ≠ .tup xs) : ∀ {l : List (Addr × Addr × Addr)} {ps : List (List PyData × List PyData)}, Paired (OwnP B S H) l ps → (p ∉ fpL l) → Paired (OwnP B S (upd H p o)) l ps
  | _, _, .nil, _ => .nil
  | e :: l, _ :: _, .cons h t, hp => by
    obtain ⟨r1, r2, r3⟩ := h
    have hp' : p ≠ e.2.1 ∧ p ≠ e.2.2 ∧ p ∉ fpL l := by
      refine ⟨fun z => hp (mem_fpL.mpr ⟨e, List.mem_cons_self, .inl z⟩), fun z => hp (mem_fpL.mpr ⟨e, List.mem_cons_self, .inr z⟩), fun z => ?_⟩
      obtain ⟨e', h1, h2⟩ := mem_fpL.mp z
      exact hp (mem_fpL.mpr ⟨e', List.mem_cons_of_mem _ h1, h2⟩)
    refine .cons ⟨?_, r2.upd fun z => hp'.1 z.symm, r3.upd fun z => hp'.2.1 z.symm⟩ (paired_upd hu ht t hp'.2.2)
    rw [upd_ne]
    · exact r1
    · intro z
      rw [z, hu] at r1
      cases r1
      exact ht _ rfl
theorem Paired.snoc' {α β : Type} {F : α → β → Prop} {a : α} {b : β} : ∀ {l₁ : List α} {l₂ : List β}, Paired F l₁ l₂ → F a b → Paired F (l₁ ++ [a]) (l₂ ++ [b])
  | _, _, .nil, h => .cons h .nil
  | _, _, .cons r t, h => .cons r (Paired.snoc' t h)
theorem Paired.len' {α β : Type} {F : α → β → Prop} : ∀ {l₁ : List α} {l₂ : List β}, Paired F l₁ l₂ → l₁.length = l₂.length
  | _, _, .nil => rfl
  | _, _, .cons r t => by rw [List.length_cons, List.length_cons, Paired.len' t]
/-- name.append((list, list)) -/
theorem ds_appPr (i : Nat) {kk : Nat} {ps : List (List PyData × List PyData)} {aa : Addr} {fp : List (Addr × Addr × Addr)} {pn ap cp tp : Pos} (hN : X.N[i]? = some n) (hv : Vis X.env.scope n) (hd : (n == ("__debug__" : Str)) = false) (hcd : (n == ("__classdict__" : Str)) = false)
    (hbase : attributeBase (.Name n pn) "append" X.env (eval (.Name n pn) X.env) = eval (.Name n pn) X.env)
    (hfew : ((backTo cp (starEach (.Tuple [e1, e2] kk tp :: []) X.env)).all (fun x => !x.1) && (backToKw cp (keywordEach [] X.env)).all (fun x => x.1.isSome)
      && decide ((Expr.Tuple [e1, e2] kk tp :: []).length + ([] : List Keyword).length + (if ([] : List Keyword).isEmpty then 0 else 1) < 30)) = true)
    (hline : (ap.endLine == cp.line) = true) (g : Arg1 X (.Tuple [e1, e2] kk tp) [] cp) (hs : swapsWith (.Call (.Attribute (.Name n pn) "append" ap) [.Tuple [e1, e2] kk tp] [] cp) none pos.line X.env = pure false)
    (s1 : starEach [e1, e2] X.env = (false, eval e1 X.env) :: starEach [e2] X.env) (s2 : starEach [e2] X.env = (false, eval e2 X.env) :: starEach [] X.env)
    (hi : ρ[i]? = some (some (.pp aa fp ps))) (h1 : DF X e1 ρ xs) (h2 : DF X e2 ρ ys) (hz : ps.length < 1000) (h : ∀ e, K.nx (ρ.set i (some (.pp aa (fp ++ [e]) (ps ++ [(xs, ys)]))))) :
    DS X W (.Expr (.Call (.Attribute (.Name n pn) "append" ap) [.Tuple [e1, e2] kk tp] [] cp) pos) ρ K := fun B =>
  (ps_expr (pe_bm PySem.F.plainAttrs_list PySem.F.slot_list_append PySem.F.type_list_append mt_append (pe_var hN hv hd hcd) (pa_cons (dpr h1 h2 s1 s2 B) pa_nil g.st) hbase hfew hline g.st g.pl) hs).imp fun D σ H ⟨⟨S, R⟩, A⟩ => by
    obtain ⟨v, g1, rfl, g2, g3, g4, g5, g6⟩ := R.sl i _ hi
    refine ⟨_, g1, .inl ⟨rfl, _, .of g4⟩, S, R, fun t q r vs ws H2 S2 st hq hr hne sq sr hq2 hr2 ht rq rr => ⟨aa, _, .ref t, rfl, rfl, st.h _ _ g4, by
      rw [List.length_map, Dt.Paired.len' g6]
      exact Nat.lt_trans hz (by rw [sizeLine_eq]; decide), ?_⟩⟩
    have R1 := R.step st
    obtain ⟨v', k1, rfl, k2, k3, k4, k5, k6⟩ := R1.sl i _ hi
    have hqa : q ≠ aa := fun z => by rw [z, g4] at hq; cases hq
    have hra : r ≠ aa := fun z => by rw [z, g4] at hr; cases hr
    have fr : ∀ q', H q' = none → ∀ (j : Nat) t w, ρ[j]? = some (some t) → σ[j]? = some (some w) → ¬ t.has w q' := fun q' hq' j t w m1 m2 m3 => by
      obtain ⟨w', n1, n2⟩ := R.sl j t m1
      rw [m2] at n1; cases n1
      obtain ⟨o, _, _, n5, _⟩ := n2.ref m3
      rw [hq'] at n5; cases n5
    have hqn : ∀ q', H q' = none → q' ∉ fpL fp := fun q' hq' z => fr q' hq' i _ _ hi g1 (.inr (mem_fpL.mp z))
    have han : aa ∉ fpL fp := (List.nodup_cons.mp g5).1
    refine A.nx _ _ _ S2 (R1.mutO (o := .lst _) hi k1 (.inl rfl) (s' := .pp aa (fp ++ [(t, q, r)]) (ps ++ [(xs, ys)])) (fun q' hq' => ?_) ⟨rfl, k2, k3, ?_, ?_, ?_⟩) (h (t, q, r))
    · rcases hq' with rfl | ⟨e', he', hq'⟩
      · exact .inl (.inl rfl)
      · rcases List.mem_append.mp he' with he' | he'
        · exact .inl (.inr ⟨e', he', hq'⟩)
        · rw [List.mem_singleton] at he'
          subst he'
          rcases hq' with rfl | rfl
          · exact .inr (fr _ hq)
          · exact .inr (fr _ hr)
    · rw [upd_same, List.map_append]
      rfl
    · rw [fpL_append]
      show (aa :: (fpL fp ++ [q, r])).Nodup
      rw [← List.cons_append, List.nodup_append]
      refine ⟨g5, by simp [hne], fun x hx y hy => ?_⟩
      have hy' : y = q ∨ y = r := by simpa using hy
      rcases List.mem_cons.mp hx with rfl | hx
      · rcases hy' with rfl | rfl
        · exact fun z => hqa z.symm
        · exact fun z => hra z.symm
      · rcases hy' with rfl | rfl
        · exact fun z => hqn _ hq (z ▸ hx)
        · exact fun z => hqn _ hr (z ▸ hx)
    · refine Paired.snoc' (paired_upd k4 (fun _ z => by cases z) k6 han) ⟨?_, ⟨vs, R.exH.back hq, sq, ?_, rq⟩, ⟨ws, R.exH.back hr, sr, ?_, rr⟩⟩
      · show upd H2 aa _ t = _
        rw [upd_ne]
        · exact ht
        · intro z
          rw [z, k4] at ht; cases ht
      · show upd H2 aa _ q = _
        rw [upd_ne hqa]; exact hq2
      · show upd H2 aa _ r = _
        rw [upd_ne hra]; exact hr2

/-! ### the pairs lent: read as data -/
def pairsD (ps : List (List PyData × List PyData)) : PyData := .list (ps.map fun x => .tuple [.list x.1, .list x.2])
theorem SlR.monoS {B : Base κ} {S S' H : Hp} {v : V} {s : Sl} (h : SlR B S H v s) (e : Ex S S') (hn : ∀ p, s.has v p → S' p = none) : SlR B S' H v s := by
  cases s with
  | d x => exact Rp.mono e h
  | x a => exact h
  | l xs => obtain ⟨q, vs, k1, k2, k3, k4, k5⟩ := h; exact ⟨q, vs, k1, k2, hn q k1, k4, k5.mono e⟩
  | t nw xs => obtain ⟨q, vs, k1, k2, k3, k4, k5⟩ := h; exact ⟨q, vs, k1, k2, hn q k1, k4, k5.mono (vS_mono e)⟩
  | k xs => obtain ⟨q, vs, k1, k2, k3, k4, k5⟩ := h; exact ⟨q, vs, k1, k2, hn q k1, k4, k5.mono e⟩
  | pp a fp ps =>
    obtain ⟨k1, k2, k3, k4, k5, k6⟩ := h
    refine ⟨k1, k2, hn a (.inl rfl), k4, k5, ?_⟩
    have key : ∀ {l : List (Addr × Addr × Addr)} {ps : List (List PyData × List PyData)}, Paired (OwnP B S H) l ps → (∀ e ∈ l, e ∈ fp) → Paired (OwnP B S' H) l ps := by
      intro l ps hp
      induction hp with
      | nil => intro _; exact .nil
      | cons r _ ih =>
        intro hm
        obtain ⟨r1, ⟨v2, m1, m2, m3, m4⟩, ⟨v3, n1, n2, n3, n4⟩⟩ := r
        have hm0 := hm _ List.mem_cons_self
        exact .cons ⟨r1, ⟨v2, m1, hn _ (.inr ⟨_, hm0, .inl rfl⟩), m3, m4.mono e⟩, ⟨v3, n1, hn _ (.inr ⟨_, hm0, .inr rfl⟩), n3, n4.mono e⟩⟩ (ih fun e he => hm e (List.mem_cons_of_mem _ he))
    exact key k6 fun _ h => h
  | p2 e2 x =>
    obtain ⟨k1, ⟨r1, ⟨v2, m1, m2, m3, m4⟩, ⟨v3, n1, n2, n3, n4⟩⟩, k3⟩ := h
    exact ⟨k1, ⟨r1, ⟨v2, m1, hn _ (.inl rfl), m3, m4.mono e⟩, ⟨v3, n1, hn _ (.inr rfl), n3, n4.mono e⟩⟩, k3⟩
theorem Rel.lend {B : Base κ} {ρ : Rho} {σ : L2.St} {H S : Hp} (R : Rel B ρ σ H S) {i : Nat} {a : Addr} {fp : List (Addr × Addr × Addr)} {ps : List (List PyData × List PyData)} (hi : ρ[i]? = some (some (.pp a fp ps))) :
    ∃ S', Rel B (ρ.set i (some (.d (pairsD ps)))) σ H S' := by
  obtain ⟨v, e1, rfl, k2, k3, k4, k5, k6⟩ := R.sl i _ hi
  have hiρ : i < ρ.length := (List.getElem?_eq_some_iff.mp hi).1
  let reg : Addr → Prop := fun b => b = a ∨ b ∈ fpL fp ∨ b ∈ fp.map (·.1)
  let S' : Hp := fun b => if b = a ∨ b ∈ fpL fp ∨ b ∈ fp.map (·.1) then H b else S b
  have s1 : ∀ b, reg b → S' b = H b := fun b h => if_pos h
  have s2 : ∀ b, ¬ reg b → S' b = S b := fun b h => if_neg h
  have eS : Ex S S' := fun b o h => by
    by_cases hb : reg b
    · rw [s1 b hb]; exact R.sub _ _ h
    · rw [s2 b hb]; exact h
  have sub : Ex S' H := fun b o h => by
    by_cases hb : reg b
    · rw [s1 b hb] at h; exact h
    · rw [s2 b hb] at h; exact R.sub _ _ h
  have tupA : ∀ t, t ∈ fp.map (·.1) → ∃ xs, H t = some (.tup xs) := fun t ht => by
    obtain ⟨e, he, rfl⟩ := List.mem_map.mp ht
    obtain ⟨b, _, h1, _⟩ := Paired.memL k6 e he
    exact ⟨_, h1⟩
  refine ⟨S', R.exH, R.exS.trans eS, sub, fun b o h h' => ?_, by rw [List.length_set]; exact R.len, fun j t e => ?_, fun a1 b1 t1 t2 v w q h1 h2 h3 h4 h5 h6 => ?_⟩
  · by_cases hb : reg b
    · rcases hb with rfl | hb | hb
      · exact .inl k2
      · obtain ⟨e, he, hq⟩ := mem_fpL.mp hb
        obtain ⟨x, _, _, ⟨_, m1, _⟩, ⟨_, n1, _⟩⟩ := Paired.memL k6 e he
        rcases hq with rfl | rfl
        · exact .inl m1
        · exact .inl n1
      · obtain ⟨xs, hx⟩ := tupA b hb
        exact NT.back R.exH (.inr ⟨xs, hx⟩)
    · rw [s2 b hb] at h; exact R.nw _ _ h h'
  · by_cases hj : i = j
    · subst hj
      rw [List.getElem?_set_self hiρ] at e
      cases e
      refine ⟨_, e1, .lst (xs := fp.map fun e => .ref e.1) ((s1 a (.inl rfl)).trans k4) ?_⟩
      have key : ∀ {l : List (Addr × Addr × Addr)} {ps : List (List PyData × List PyData)}, Paired (OwnP B S H) l ps → (∀ e ∈ l, e ∈ fp) → RpA κ S' (l.map fun e => .ref e.1) (ps.map fun x => .tuple [.list x.1, .list x.2]) := by
        intro l ps hp
        induction hp with
        | nil => intro _; exact .nil
        | cons r _ ih =>
          intro hm
          obtain ⟨r1, ⟨v2, m1, m2, m3, m4⟩, ⟨v3, n1, n2, n3, n4⟩⟩ := r
          have hm0 := hm _ List.mem_cons_self
          refine .cons (.tup ((s1 _ (.inr (.inr (List.mem_map.mpr ⟨_, hm0, rfl⟩)))).trans r1) (.cons (.lst ((s1 _ (.inr (.inl (mem_fpL.mpr ⟨_, hm0, .inl rfl⟩)))).trans m3) (m4.mono eS)) (.cons (.lst ((s1 _ (.inr (.inl (mem_fpL.mpr ⟨_, hm0, .inr rfl⟩)))).trans n3) (n4.mono eS)) .nil))) (ih fun e he => hm e (List.mem_cons_of_mem _ he))
      exact key k6 fun _ h => h
    · rw [List.getElem?_set_ne hj] at e
      obtain ⟨v, g1, g2⟩ := R.sl j t e
      refine ⟨v, g1, g2.monoS eS fun p hp => ?_⟩
      obtain ⟨o, m1, m2, m3, m4⟩ := g2.ref hp
      rw [s2 p, m2]
      rintro (rfl | hb | hb)
      · exact hj (R.sep i j _ t _ v _ hi e e1 g1 (.inl rfl) hp)
      · exact hj (R.sep i j _ t _ v _ hi e e1 g1 (.inr (mem_fpL.mp hb)) hp)
      · obtain ⟨xs, hx⟩ := tupA p hb
        rw [m3] at hx; cases hx
        exact m4 _ rfl
  · have f : ∀ {a : Nat} {s1 : Sl} {u : V}, (ρ.set i (some (.d (pairsD ps))))[a]? = some (some s1) → s1.has u q → ρ[a]? = some (some s1) := fun {a s1 u} h ho1 => by
      by_cases hj : i = a
      · subst hj
        rw [List.getElem?_set_self hiρ] at h
        cases h
        exact ho1.elim
      · rw [List.getElem?_set_ne hj] at h; exact h
    exact R.sep a1 b1 t1 t2 v w q (f h1 h5) (f h2 h6) h3 h4 h5 h6
variable {aa : Addr} {fp : List (Addr × Addr × Addr)} {ps : List (List PyData × List PyData)}
theorem db_lend (i : Nat) (h : DB X e (ρ.set i (some (.d (pairsD ps)))) k) (hi : ρ[i]? = some (some (.pp aa fp ps)) := by rfl) : DB X e ρ k := fun B => (h B).imp fun σ H Q ⟨S, R, q⟩ =>
  let ⟨S', R'⟩ := R.lend hi
  ⟨S', R', q⟩
theorem de_lend (i : Nat) (h : DE X e (ρ.set i (some (.d (pairsD ps)))) x) (hi : ρ[i]? = some (some (.pp aa fp ps)) := by rfl) : DE X e ρ x := fun B => (h B).imp fun σ H Q ⟨S, R, q⟩ =>
  let ⟨S', R'⟩ := R.lend hi
  ⟨S', R', q⟩

/-! ### the pairs walked, their lists appended to -/
def pickA (k : Bool) (e : Addr × Addr × Addr) : Addr := if k then e.2.2 else e.2.1
def pickP (k : Bool) (x : List PyData × List PyData) : List PyData := if k then x.2 else x.1
def putP (k : Bool) (x : List PyData × List PyData) (l : List PyData) : List PyData × List PyData := if k then (x.1, l) else (l, x.2)
theorem OwnP.pick {B : Base κ} {S H : Hp} {e : Addr × Addr × Addr} {x : List PyData × List PyData} (h : OwnP B S H e x) (k : Bool) : OwnAt B S H (pickA k e) (pickP k x) := by
  cases k
  · exact h.2.1
  · exact h.2.2
theorem pick_mem {l : List (Addr × Addr × Addr)} {e : Addr × Addr × Addr} (h : e ∈ l) (k : Bool) : pickA k e ∈ fpL l := by
  cases k
  · exact mem_fpL.mpr ⟨e, h, .inl rfl⟩
  · exact mem_fpL.mpr ⟨e, h, .inr rfl⟩
theorem paired_put {B : Base κ} {S H : Hp} {vs' : List V} {xs' : List PyData} (k : Bool) (r : RpA κ S vs' xs') : ∀ {l : List (Addr × Addr × Addr)} {ps : List (List PyData × List PyData)} {m : Nat} {e : Addr × Addr × Addr} {x : List PyData × List PyData},
    Paired (OwnP B S H) l ps → (fpL l).Nodup → l[m]? = some e → ps[m]? = some x → Paired (OwnP B S (upd H (pickA k e) (.lst vs'))) l (ps.set m (putP k x xs'))
  | _, _, _, _, _, .nil, _, h, _ => by cases h
  | e0 :: l, x0 :: ps, 0, e, x, .cons h t, nd, h1, h2 => by
    cases h1
    cases h2
    have nd2 : e0.2.1 ≠ e0.2.2 ∧ e0.2.1 ∉ fpL l ∧ e0.2.2 ∉ fpL l := by
      have nd' : (e0.2.1 :: e0.2.2 :: fpL l).Nodup := nd
      rw [List.nodup_cons, List.nodup_cons] at nd'
      refine ⟨fun z => nd'.1 (z ▸ List.mem_cons_self), fun z => nd'.1 (List.mem_cons_of_mem _ z), nd'.2.1⟩
    have hk : pickA k e0 ∉ fpL l := match k with
      | false => nd2.2.1
      | true => nd2.2.2
    obtain ⟨vs0, m1, m2, m3, m4⟩ := h.pick k
    refine .cons ⟨?_, ?_⟩ (paired_upd m3 (fun _ z => by cases z) t hk)
    · rw [upd_ne]
      · exact h.1
      · intro z
        have := h.1
        rw [z, m3] at this; cases this
    · cases k
      · exact ⟨⟨vs', m1, m2, upd_same, r⟩, h.2.2.upd fun z => nd2.1 z.symm⟩
      · exact ⟨h.2.1.upd nd2.1, ⟨vs', m1, m2, upd_same, r⟩⟩
  | e0 :: l, x0 :: ps, m + 1, e, x, .cons h t, nd, h1, h2 => by
    have h1 : l[m]? = some e := by simpa using h1
    have h2 : ps[m]? = some x := by simpa using h2
    have nd' : (e0.2.1 :: e0.2.2 :: fpL l).Nodup := nd
    rw [List.nodup_cons, List.nodup_cons] at nd'
    have hm := pick_mem (List.mem_of_getElem? h1) k
    have hq : ∃ vs, H (pickA k e) = some (.lst vs) := by
      obtain ⟨b, _, hb⟩ := Paired.memL t e (List.mem_of_getElem? h1)
      obtain ⟨vs, _, _, m3, _⟩ := hb.pick k
      exact ⟨vs, m3⟩
    obtain ⟨vs, hq⟩ := hq
    refine .cons ⟨?_, h.2.1.upd fun z => nd'.1 (List.mem_cons_of_mem _ (z ▸ hm)), h.2.2.upd fun z => nd'.2.1 (z ▸ hm)⟩ (paired_put k r t nd'.2.2 h1 h2)
    rw [upd_ne]
    · exact h.1
    · intro z
      have := h.1
      rw [z, hq] at this; cases this
/-- name[c].append(e), name an item of the list of pairs in slot i -/
theorem ds_appSub (i j : Nat) (kb : Bool) {q m : Nat} {cc : Int} {el : Addr × Addr × Addr} {xp : List PyData × List PyData} {pn ap cp sp p3 : Pos} (hcc : cc = if kb then 1 else 0) (hN : X.N[j]? = some n) (hv : Vis X.env.scope n) (hd : (n == ("__debug__" : Str)) = false) (hcd : (n == ("__classdict__" : Str)) = false)
    (hbase : attributeBase (.Subscript (.Name n pn) (.Constant (.int cc) q p3) sp) "append" X.env (eval (.Subscript (.Name n pn) (.Constant (.int cc) q p3) sp) X.env) = eval (.Subscript (.Name n pn) (.Constant (.int cc) q p3) sp) X.env)
    (hfew : ((backTo cp (starEach (e :: []) X.env)).all (fun x => !x.1) && (backToKw cp (keywordEach [] X.env)).all (fun x => x.1.isSome)
      && decide ((e :: []).length + ([] : List Keyword).length + (if ([] : List Keyword).isEmpty then 0 else 1) < 30)) = true)
    (hline : (ap.endLine == cp.line) = true) (g : Arg1 X e [] cp) (hs : swapsWith (.Call (.Attribute (.Subscript (.Name n pn) (.Constant (.int cc) q p3) sp) "append" ap) [e] [] cp) none pos.line X.env = pure false)
    (hi : ρ[i]? = some (some (.pp aa fp ps))) (hj : ρ[j]? = some (some (.x el.1))) (hf : fp[m]? = some el) (hx : ps[m]? = some xp) (he : DK X e ρ y) (hz : (pickP kb xp).length < 1000) (h : K.nx (ρ.set i (some (.pp aa fp (ps.set m (putP kb xp (pickP kb xp ++ [y]))))))) :
    DS X W (.Expr (.Call (.Attribute (.Subscript (.Name n pn) (.Constant (.int cc) q p3) sp) "append" ap) [e] [] cp) pos) ρ K := fun B =>
  (ps_expr (pe_bm PySem.F.plainAttrs_list PySem.F.slot_list_append PySem.F.type_list_append mt_append (pe_ix ix_tup (pe_var hN hv hd hcd) pe_int (by intro _ _; rfl)) (pa_cons (he B) pa_nil g.st) hbase hfew hline g.st g.pl) hs).imp fun D σ H ⟨⟨S, R⟩, A⟩ => by
    obtain ⟨v, g1, rfl, g2, g3, g4, g5, g6⟩ := R.sl i _ hi
    obtain ⟨vj, j1, j2⟩ := R.sl j _ hj
    have j2 : vj = .ref el.1 := j2
    subst j2
    have hP : ∃ b, b ∈ ps ∧ OwnP B S H el b := Paired.memL g6 el (List.mem_of_getElem? hf)
    obtain ⟨b, _, hb⟩ := hP
    have hat : L2.atI [V.ref el.2.1, V.ref el.2.2] cc = some (.ref (pickA kb el)) := by
      subst hcc
      cases kb <;> rfl
    obtain ⟨vs0, m1, m2, m3, m4⟩ := hb.pick kb
    refine ⟨_, j1, _, _, cc, .ref (pickA kb el), rfl, rfl, .of hb.1, hat, .inl ⟨rfl, _, .of m3⟩, S, R, fun w H2 S2 t r1 => ?_⟩
    have R1 := R.step t
    obtain ⟨v', k1, rfl, k2, k3, k4, k5, k6⟩ := R1.sl i _ hi
    have hxp : ∃ vs, B.H (pickA kb el) = none ∧ S2 (pickA kb el) = none ∧ H2 (pickA kb el) = some (.lst vs) ∧ RpA X.K S2 vs (pickP kb xp) := by
      have key : ∀ {l : List (Addr × Addr × Addr)} {ps : List (List PyData × List PyData)} {m : Nat}, Paired (OwnP B S2 H2) l ps → l[m]? = some el → ps[m]? = some xp → OwnP B S2 H2 el xp := by
        intro l ps m hp
        induction hp generalizing m with
        | nil => intro h _; cases h
        | cons r _ ih =>
          intro h1 h2
          cases m with
          | zero => cases h1; cases h2; exact r
          | succ m => exact ih (by simpa using h1) (by simpa using h2)
      exact (key k6 hf hx).pick kb
    obtain ⟨vs, n1, n2, n3, n4⟩ := hxp
    have hpk : pickA kb el ∈ fpL fp := pick_mem (List.mem_of_getElem? hf) kb
    refine ⟨pickA kb el, vs, w, rfl, rfl, n3, by rw [n4.length]; exact Nat.lt_trans hz (by rw [sizeLine_eq]; decide), ?_⟩
    refine A.nx _ _ _ S2 (R1.mutO (o := .lst (vs ++ [w])) hi k1 (.inr (mem_fpL.mp hpk)) (s' := .pp aa fp (ps.set m (putP kb xp (pickP kb xp ++ [y])))) (fun q hq => .inl hq) ⟨rfl, k2, k3, ?_, k5, ?_⟩) h
    · rw [upd_ne]
      · exact k4
      · intro z
        exact (List.nodup_cons.mp k5).1 (z ▸ hpk)
    · exact paired_put kb (n4.append (.one r1)) k6 (List.nodup_cons.mp k5).2 hf hx

/-- a slot is written: no own object -/
theorem Rel.setX {B : Base κ} {σ : L2.St} {H S : Hp} (R : Rel B ρ σ H S) (i : Nat) {v : V} {s0 : Sl} (hs : ∀ p, ¬ s0.has v p) (h : SlR B S H v s0) : Rel B (ρ.set i (some s0)) (σ.set i (some v)) H S where
  exH := R.exH
  exS := R.exS
  sub := R.sub
  nw := R.nw
  len := by rw [List.length_set, List.length_set]; exact R.len
  sl := fun j s e => by
    by_cases hj : i = j
    · subst hj
      rw [List.getElem?_set] at e
      have hl := R.len
      by_cases hi : i < ρ.length
      · simp [hi] at e
        subst e
        exact ⟨v, by rw [List.getElem?_set]; simp [show i < σ.length by omega], h⟩
      · simp [hi] at e
    · rw [List.getElem?_set_ne hj] at e
      rw [List.getElem?_set_ne hj]
      exact R.sl j s e
  sep := fun a b s t u w p h1 h2 h3 h4 h5 h6 => by
    have hl := R.len
    have f : ∀ {a : Nat} {s : Sl} {u : V}, (ρ.set i (some s0))[a]? = some (some s) → (σ.set i (some v))[a]? = some (some u) → s.has u p → i ≠ a ∧ ρ[a]? = some (some s) := fun {a s u} h hu ho => by
      by_cases hj : i = a
      · subst hj
        rw [List.getElem?_set] at h hu
        by_cases hi : i < ρ.length
        · simp [hi] at h
          simp [show i < σ.length by omega] at hu
          subst h hu
          exact absurd ho (hs p)
        · simp [hi] at h
      · rw [List.getElem?_set_ne hj] at h; exact ⟨hj, h⟩
    obtain ⟨n1, e1⟩ := f h1 h3 h5
    obtain ⟨n2, e2⟩ := f h2 h4 h6
    rw [List.getElem?_set_ne n1] at h3
    rw [List.getElem?_set_ne n2] at h4
    exact R.sep a b s t u w p e1 e2 h3 h4 h5 h6
/-- for name in pairs: body, which turns each pair (x, y) to F (x, y) -/
theorem ds_forPP (i j : Nat) {nj : Str} {pn pj : Pos} (F : List PyData × List PyData → List PyData × List PyData) (hp : PassesOwn (model X.prog X.w) X.A X.env X.xe) (hc : X.calm = true) (hf : ∀ x, foldedSetIterable (.Name n pn) X.env x = pure x)
    (hN : X.N.Nodup) (hNi : X.N[i]? = some n) (hv : Vis X.env.scope n) (hd : (n == ("__debug__" : Str)) = false) (hcd : (n == ("__classdict__" : Str)) = false)
    (hNj : X.N[j]? = some nj) (hx : Loc X.env.scope nj) (hfj : X.fn nj = true ∨ X.env.scope.names.lookup nj = some .local) (hij : i ≠ j)
    (hi : ρ[i]? = some (some (.pp aa fp ps)))
    (hb : ∀ m e x, ∀ ps' : List (List PyData × List PyData), fp[m]? = some e → ps'[m]? = some x → ps[m]? = some x → DSs X W body ((ρ.set i (some (.pp aa fp ps'))).set j (some (.x e.1)))
      { nx := fun r => r.set j none = (ρ.set i (some (.pp aa fp (ps'.set m (F x))))).set j none, bk := fun _ => False, ct := fun _ => False, rt := fun _ => False, ex := fun _ => False })
    (h : K.nx ((ρ.set i (some (.pp aa fp (ps.map F)))).set j none)) : DS X W (.For (.Name nj pj) (.Name n pn) body [] pos) ρ K := fun B =>
  (ps_for hp hc (pi_list (pe_var hNi hv hd hcd)) (pg_name hN hNj hx hfj) (pss_u (W := W)) hf).imp fun D σ H ⟨⟨S, R⟩, A⟩ => by
    obtain ⟨v, g1, rfl, g2, g3, g4, g5, g6⟩ := R.sl i _ hi
    have hlen := Paired.len' g6
    have hiρ : i < ρ.length := (List.getElem?_eq_some_iff.mp hi).1
    let ρk : Nat → Rho := fun k => (ρ.set i (some (.pp aa fp ((ps.take k).map F ++ ps.drop k)))).set j none
    have ρki : ∀ k, (ρk k)[i]? = some (some (.pp aa fp ((ps.take k).map F ++ ps.drop k))) := fun k => by
      show ((ρ.set i _).set j none)[i]? = _
      rw [List.getElem?_set_ne (fun z => hij z.symm), List.getElem?_set_self hiρ]
    refine ⟨_, g1, _, rfl, ⟨_, .of g4⟩, fun k m σ' H' => m = fp.length - k ∧ k ≤ fp.length ∧ ∃ S', Rel B (ρk k) σ' H' S', ⟨fp.length, by simp, Nat.zero_le _, S, ?_⟩, ?_⟩
    · have e0 : ρ.set i (some (.pp aa fp ps)) = ρ := by
        apply List.ext_getElem?
        intro q
        by_cases hq : i = q
        · subst hq; rw [List.getElem?_set_self hiρ, hi]
        · rw [List.getElem?_set_ne hq]
      show Rel B ((ρ.set i (some (.pp aa fp ((ps.take 0).map F ++ ps.drop 0)))).set j none) σ H S
      rw [List.take_zero, List.map_nil, List.nil_append, List.drop_zero, e0]
      exact R.forget j
    rintro k m σ' H' ⟨rfl, hk, S', R'⟩
    obtain ⟨v', q1, rfl, q2, q3, q4, q5, q6⟩ := R'.sl i _ (ρki k)
    by_cases hlt : k < fp.length
    · have efp : fp[k]? = some fp[k] := List.getElem?_eq_getElem hlt
      have hlp : k < ps.length := hlen ▸ hlt
      have eps : ps[k]? = some ps[k] := List.getElem?_eq_getElem hlp
      have eps' : ((ps.take k).map F ++ ps.drop k)[k]? = some ps[k] := by
        have e1 : ((ps.take k).map F).length = k := by simp; omega
        rw [List.getElem?_append_right (by omega), e1, Nat.sub_self, List.getElem?_drop, Nat.add_zero]
        exact eps
      have eset : ((ps.take k).map F ++ ps.drop k).set k (F ps[k]) = (ps.take (k + 1)).map F ++ ps.drop (k + 1) := by
        have e1 : ((ps.take k).map F).length = k := by simp; omega
        have ed : ps.drop k = ps[k] :: ps.drop (k + 1) := (List.getElem_cons_drop hlp).symm
        rw [ed, List.set_append_right _ _ (by omega), e1, Nat.sub_self, List.set_cons_zero, List.take_add_one, eps, List.map_append]
        simp
      refine .inr ⟨⟨_, .ref fp[k].1, .of q4, by rw [List.getElem?_map, efp]; rfl⟩, fun σ2 H3 => ∃ S3, Rel B (ρk (k + 1)) σ2 H3 S3, fun σ2 H3 ⟨S3, w⟩ => ⟨fp.length - (k + 1), by omega, rfl, hlt, S3, w⟩, fun u H3 y => ?_⟩
      obtain ⟨rfl, y⟩ := y
      have hu := y _ (.of q4)
      rw [List.getElem?_map, efp] at hu
      cases hu
      have R3 := R'.setX j (v := .ref fp[k].1) (s0 := .x fp[k].1) (fun _ z => z) rfl
      have eρ : (ρk k).set j (some (.x fp[k].1)) = (ρ.set i (some (.pp aa fp ((ps.take k).map F ++ ps.drop k)))).set j (some (.x fp[k].1)) := by
        show ((ρ.set i _).set j none).set j _ = _
        rw [List.set_set]
      rw [eρ] at R3
      refine ⟨B, _, _, hb k fp[k] ps[k] _ efp eps' eps, ⟨S', R3⟩, ⟨fun r σ5 H5 S5 R5 q => ?_, fun _ _ _ _ _ z => z.elim, fun _ _ _ _ _ z => z.elim, fun _ _ _ _ z => z.elim, fun _ _ _ _ _ z => z.elim⟩⟩
      have q : r.set j none = _ := q
      rw [eset] at q
      have R6 := R5.forget j
      rw [q] at R6
      exact ⟨S5, R6⟩
    · have e : k = fp.length := by omega
      subst e
      refine .inl ⟨⟨_, .of q4, by rw [List.length_map]; exact Nat.le_refl _⟩, A.nx _ _ _ _ R' ?_⟩
      show K.nx ((ρ.set i (some (.pp aa fp ((ps.take fp.length).map F ++ ps.drop fp.length)))).set j none)
      rw [hlen, List.take_length, List.drop_length, List.append_nil]
      exact h

theorem appPr (i : Nat) {kk : Nat} {pn ap cp tp : Pos} (h1 : DF X e1 ρ xs) (h2 : DF X e2 ρ ys) (hz : ps.length < 1000) (h : ∀ e, K.nx (ρ.set i (some (.pp aa (fp ++ [e]) (ps ++ [(xs, ys)]))))) (hi : ρ[i]? = some (some (.pp aa fp ps)) := by rfl) (hN : X.N[i]? = some n := by rfl) (hv : Vis X.env.scope n := by first | exact Or.inl rfl | exact Or.inr (Or.inl rfl) | exact Or.inr (Or.inr rfl)) (hd : (n == ("__debug__" : Str)) = false := by decide) (hcd : (n == ("__classdict__" : Str)) = false := by decide)
    (hbase : attributeBase (.Name n pn) "append" X.env (eval (.Name n pn) X.env) = eval (.Name n pn) X.env := by rfl)
    (hfew : ((backTo cp (starEach (.Tuple [e1, e2] kk tp :: []) X.env)).all (fun x => !x.1) && (backToKw cp (keywordEach [] X.env)).all (fun x => x.1.isSome)
      && decide ((Expr.Tuple [e1, e2] kk tp :: []).length + ([] : List Keyword).length + (if ([] : List Keyword).isEmpty then 0 else 1) < 30)) = true := by rfl)
    (hline : (ap.endLine == cp.line) = true := by rfl) (g : Arg1 X (.Tuple [e1, e2] kk tp) [] cp := by exact a1) (hs : swapsWith (.Call (.Attribute (.Name n pn) "append" ap) [.Tuple [e1, e2] kk tp] [] cp) none pos.line X.env = pure false := by rfl)
    (s1 : starEach [e1, e2] X.env = (false, eval e1 X.env) :: starEach [e2] X.env := by rfl) (s2 : starEach [e2] X.env = (false, eval e2 X.env) :: starEach [] X.env := by rfl) :
    DS X W (.Expr (.Call (.Attribute (.Name n pn) "append" ap) [.Tuple [e1, e2] kk tp] [] cp) pos) ρ K := ds_appPr i hN hv hd hcd hbase hfew hline g hs s1 s2 hi h1 h2 hz h
theorem appSub (i j : Nat) (kb : Bool) {q m : Nat} {cc : Int} {el : Addr × Addr × Addr} {xp : List PyData × List PyData} {pn ap cp sp p3 : Pos} (he : DK X e ρ y) (hf : fp[m]? = some el) (hx : ps[m]? = some xp) (hz : (pickP kb xp).length < 1000) (h : K.nx (ρ.set i (some (.pp aa fp (ps.set m (putP kb xp (pickP kb xp ++ [y]))))))) (hi : ρ[i]? = some (some (.pp aa fp ps)) := by rfl) (hj : ρ[j]? = some (some (.x el.1)) := by rfl)
    (hcc : cc = if kb then 1 else 0 := by rfl) (hN : X.N[j]? = some n := by rfl) (hv : Vis X.env.scope n := by first | exact Or.inl rfl | exact Or.inr (Or.inl rfl) | exact Or.inr (Or.inr rfl)) (hd : (n == ("__debug__" : Str)) = false := by decide) (hcd : (n == ("__classdict__" : Str)) = false := by decide)
    (hbase : attributeBase (.Subscript (.Name n pn) (.Constant (.int cc) q p3) sp) "append" X.env (eval (.Subscript (.Name n pn) (.Constant (.int cc) q p3) sp) X.env) = eval (.Subscript (.Name n pn) (.Constant (.int cc) q p3) sp) X.env := by rfl)
    (hfew : ((backTo cp (starEach (e :: []) X.env)).all (fun x => !x.1) && (backToKw cp (keywordEach [] X.env)).all (fun x => x.1.isSome)
      && decide ((e :: []).length + ([] : List Keyword).length + (if ([] : List Keyword).isEmpty then 0 else 1) < 30)) = true := by rfl)
    (hline : (ap.endLine == cp.line) = true := by rfl) (g : Arg1 X e [] cp := by exact a1) (hs : swapsWith (.Call (.Attribute (.Subscript (.Name n pn) (.Constant (.int cc) q p3) sp) "append" ap) [e] [] cp) none pos.line X.env = pure false := by rfl) :
    DS X W (.Expr (.Call (.Attribute (.Subscript (.Name n pn) (.Constant (.int cc) q p3) sp) "append" ap) [e] [] cp) pos) ρ K := ds_appSub i j kb hcc hN hv hd hcd hbase hfew hline g hs hi hj hf hx he hz h
theorem forPP (i j : Nat) {nj : Str} {pn pj : Pos} (F : List PyData × List PyData → List PyData × List PyData) (hp : PassesOwn (model X.prog X.w) X.A X.env X.xe)
    (hb : ∀ m e x, ∀ ps' : List (List PyData × List PyData), fp[m]? = some e → ps'[m]? = some x → ps[m]? = some x → DSs X W body ((ρ.set i (some (.pp aa fp ps'))).set j (some (.x e.1)))
      { nx := fun r => r.set j none = (ρ.set i (some (.pp aa fp (ps'.set m (F x))))).set j none, bk := fun _ => False, ct := fun _ => False, rt := fun _ => False, ex := fun _ => False })
    (h : K.nx ((ρ.set i (some (.pp aa fp (ps.map F)))).set j none)) (hi : ρ[i]? = some (some (.pp aa fp ps)) := by rfl) (hc : X.calm = true := by rfl) (hf : ∀ x, foldedSetIterable (.Name n pn) X.env x = pure x := by intro _; rfl)
    (hN : X.N.Nodup := by assumption) (hNi : X.N[i]? = some n := by rfl) (hv : Vis X.env.scope n := by first | exact Or.inl rfl | exact Or.inr (Or.inl rfl) | exact Or.inr (Or.inr rfl)) (hd : (n == ("__debug__" : Str)) = false := by decide) (hcd : (n == ("__classdict__" : Str)) = false := by decide)
    (hNj : X.N[j]? = some nj := by rfl) (hx : L2.Loc X.env.scope nj := by first | exact Or.inl rfl | exact Or.inr rfl) (hfj : X.fn nj = true ∨ X.env.scope.names.lookup nj = some .local := by first | exact .inl rfl | exact .inr rfl) (hij : i ≠ j := by decide) :
    DS X W (.For (.Name nj pj) (.Name n pn) body [] pos) ρ K := ds_forPP i j F hp hc hf hN hNi hv hd hcd hNj hx hfj hij hi hb h
end
end Dt

/-! Dt: chains of ==, comparisons of truths. -/
namespace Dt
open PySem PySem.Spec PyProof.Rows L2
section
variable {X : Cx} {W : WX} {e a b c : Expr} {es : List Expr} {ρ ρ' : Rho} {x y z : PyData} {xs ys : List PyData} {pos p2 p : Pos} {i j m : Int} {n : Str} {k : Bool} {st : Stmt} {rest body orelse : List Stmt} {K : En}
/-- a == b == c of data -/
theorem dk_eqeqD {n : Nat} (hr : Room n X.A) (ha : DE X a ρ x) (hb : DE X b ρ y) (hc : DE X c ρ z) (h1 : SeqAt.shaped x = true) (h2 : SeqAt.shaped y = true) (h3 : SeqAt.shaped z = true) (hm : lastMarks [.Eq, .Eq] [b, c] = false := by with_unfolding_all rfl) :
    DK X (.Compare a [.Eq, .Eq] [b, c] pos) ρ (.bool (PyData.eqv x y && PyData.eqv y z)) := fun B =>
  (pe_chain (op_eqD hr.units) (op_eqD hr.units) (ha B) (hb B) (hc B) hm).imp fun σ H Q ⟨S, R, q⟩ => ⟨S, R, fun u H1 e1 r1 => ⟨S, R.heap e1, fun v H2 e2 r2 =>
    ⟨x, y, (r1.mono e2).dp (SeqAt.canLay_of_shaped h1), r2.dp (SeqAt.canLay_of_shaped h2), h1, h2, PyData.eqv x y, rfl, by
    cases hp : PyData.eqv x y with
    | false =>
      rw [hp] at q
      exact iteF (q _ H2 S (.heap R.sub (e1.trans e2)) (.bl _))
    | true =>
      rw [hp] at q
      exact iteT ⟨S, R.heap (e1.trans e2), fun w H3 e3 r3 => ⟨y, z, (r2.mono e3).dp (SeqAt.canLay_of_shaped h2), r3.dp (SeqAt.canLay_of_shaped h3), h2, h3, q _ H3 S (.heap R.sub ((e1.trans e2).trans e3)) (.bl _)⟩⟩⟩⟩⟩
theorem dk_eqeqL {q : Nat} (hr : Room q X.A) {l l' l'' : List Nat} (ha : DE X a ρ (nL l)) (hb : DE X b ρ (nL l')) (hc : DE X c ρ (nL l'')) (hm : lastMarks [.Eq, .Eq] [b, c] = false := by with_unfolding_all rfl) :
    DK X (.Compare a [.Eq, .Eq] [b, c] pos) ρ (.bool (decide (l = l') && decide (l' = l''))) :=
  (dk_eqeqD hr ha hb hc (shp_nL (k := 0)).ok (shp_nL (k := 0)).ok (shp_nL (k := 0)).ok hm).cast (by rw [eqv_nL, eqv_nL])
theorem eqv_bool {k k' : Bool} : PyData.eqv (.bool k) (.bool k') = decide (k = k') := by
  simp only [PyData.eqv]
  cases k <;> cases k' <;> rfl
theorem db_neB {q : Nat} {k k' : Bool} (hr : Room q X.A) (ha : DE X a ρ (.bool k)) (hb : DE X b ρ (.bool k')) : DB X (.Compare a [.NotEq] [b] pos) ρ (!decide (k = k')) :=
  (db_neD hr ha hb (shp_bool (k := 0)).ok (shp_bool (k := 0)).ok).cast (by rw [eqv_bool])
theorem db_eqB {q : Nat} {k k' : Bool} (hr : Room q X.A) (ha : DE X a ρ (.bool k)) (hb : DE X b ρ (.bool k')) : DB X (.Compare a [.Eq] [b] pos) ρ (decide (k = k')) :=
  (db_eqD hr ha hb (shp_bool (k := 0)).ok (shp_bool (k := 0)).ok).cast (by rw [eqv_bool])
end
end Dt

/-! Dt: a def that is called in an except suite, with the exception alone; texts times truths. -/
namespace Dt
open PySem PySem.Spec PyProof.Rows L2
/-- a text taken or not -/
def takeS (b : Bool) (s : Str) : Str := if b then s else Str.empty
theorem op_take {X : Cx} : OpR X (binaryOp .Mult) (fun x y H Q => ∃ (s : Str) (b : Bool), x = .str s ∧ y = .int (if b then 1 else 0) ∧ Q (.str (takeS b s)) H) := by
  intro pins s σ H x y v u Q I rx ry h
  obtain ⟨t, b, rfl, rfl, q⟩ := h
  obtain ⟨t1, rfl⟩ := rx
  obtain ⟨t2, rfl⟩ := ry
  cases b with
  | false => exact P.mul_str_none (by decide) (by decide) ⟨.str _, H, I.kept (t' := s.toks + 1) fun _ _ z => z, ⟨_, rfl⟩, q⟩
  | true =>
    refine P.mul_str (by decide) (fun _ z => by cases z) (fun _ z => by cases z) ?_
    exact ⟨.str _, H, I, ⟨_, rfl⟩, q⟩
section
variable {X : Cx} {W : WX} {e a b c : Expr} {es : List Expr} {ρ ρ' : Rho} {x y z : PyData} {xs ys : List PyData} {pos p2 p : Pos} {i j m : Int} {n : Str} {k : Bool} {st : Stmt} {rest body orelse : List Stmt} {K : En}
theorem dk_take {s : Str} {b0 : Bool} (ha : DE X a ρ (.str s)) (hb : DE X b ρ (.int (if b0 then 1 else 0))) : DK X (.BinOp a .Mult b pos) ρ (.str (takeS b0 s)) :=
  dk_op op_take ha hb rfl fun u v H Q h1 h2 q => ⟨s, b0, h1.str', h2.int', q _ (.str _)⟩
/-- isinstance of an exception that is pinned -/
theorem call_pin {ae D : Addr} {oe : Obj} (hp : (ae, oe) ∈ X.pn) (C : ExcC X.K D) (hz : Zc (.ref D) none oe) (hf : ∃ vs, oe.data = .fields vs) : CallR X (.builtin "isinstance") (rIsE X.K D ae) := by
  rintro pins s σ H ws us Q I r ⟨c, cv, b, rfl, hcv, hk, q⟩
  obtain ⟨u1, u2, rfl, r1, r2⟩ := vals2 r
  cases hcv _ r2
  cases r1
  have here := (I.pin (ae, oe) (List.mem_append_left _ hp)).1
  have inst : PySem.W.InstAt s.heap ae oe D none := by
    rcases oe with ⟨ocl, odi, oda, osl⟩
    rcases hf with ⟨vs, hv⟩
    cases hz.1
    cases hz.2
    cases hv
    exact ⟨here, rfl, rfl, trivial⟩
  refine PySem.W.kia_one (PySem.W.handS_kitx_exc C.hg C.hk C.hs C.hd C.ha C.hn C.ht C.hm) I.kIn inst hk (fun w => nomatch w) ?_
  intro tk
  exact ⟨.bl b, H, I.kept (t' := tk) fun _ _ w => w, rfl, q⟩
theorem dk_isP {ae D : Addr} {oe : Obj} {i : Nat} {ne nc : Str} {pe pc : Pos} {cv : Value} {cV : V} (hp : (ae, oe) ∈ X.pn) (C : ExcC X.K D) (hz : Zc (.ref D) none oe) (hf : ∃ vs, oe.data = .fields vs) (g : Blt X n (.builtin "isinstance"))
    (hc : PE X (.Name nc pc) (tC cV)) (hu : ∀ u, RelV cV u → u = cv) (hk : PySem.W.kitOne X.K (.ref D) cv = some k) (hN : X.N[i]? = some ne) (hv : Vis X.env.scope ne) (hd : (ne == ("__debug__" : Str)) = false) (hcd : (ne == ("__classdict__" : Str)) = false)
    (s : Arg1 X (.Name ne pe) [.Name nc pc] pos) (s2 : starEach [.Name nc pc] X.env = (false, eval (.Name nc pc) X.env) :: starEach [] X.env) (hi : ρ[i]? = some (some (.x ae))) :
    DK X (.Call (.Name n p) [.Name ne pe, .Name nc pc] [] pos) ρ (.bool k) := fun B =>
  (pe_callB (call_pin hp C hz hf) g.gl g.mg g.bt (pa_cons (pe_var (i := i) hN hv hd hcd) (pa_cons hc pa_nil s2) s.st) g.nn g.nd s.st s.pl).imp fun σ H Q ⟨S, R, q⟩ => by
    obtain ⟨w, h1, h2⟩ := R.sl i _ hi
    cases h2
    exact ⟨_, h1, cV, cv, k, rfl, hu, hk, q _ H S (.refl R.sub) (.bl k)⟩
theorem isP {ae D D2 : Addr} {oe : Obj} {ne nc : Str} {pe pc : Pos} (hp : (ae, oe) ∈ X.pn) (C : ExcC X.K D) (hz : Zc (.ref D) none oe) (hf : ∃ vs, oe.data = .fields vs) (mi : X.mg n = none) (mc : X.mg nc = some (.ref D2)) (hk : PySem.W.kitOne X.K (.ref D) (.ref D2) = some k) (i : Nat)
    (hi : ρ[i]? = some (some (.x ae)) := by rfl) (hN : X.N[i]? = some ne := by rfl) (hv : Vis X.env.scope ne := by first | exact Or.inl rfl | exact Or.inr (Or.inl rfl) | exact Or.inr (Or.inr rfl)) (hd : (ne == ("__debug__" : Str)) = false := by decide) (hcd : (ne == ("__classdict__" : Str)) = false := by decide)
    (g : X.mg n = none → Blt X n (.builtin "isinstance") := by exact fun h => blt h) (gc : Gl X nc := by rfl) (hdc : (nc == ("__debug__" : Str)) = false := by decide)
    (s : Arg1 X (.Name ne pe) [.Name nc pc] pos := by exact a1) (s2 : starEach [.Name nc pc] X.env = (false, eval (.Name nc pc) X.env) :: starEach [] X.env := by rfl) : DK X (.Call (.Name n p) [.Name ne pe, .Name nc pc] [] pos) ρ (.bool k) :=
  dk_isP hp C hz hf (g mi) (pe_glob (v := .ref D2) gc mc rfl hdc) (fun u h => h) hk hN hv hd hcd s s2 hi
theorem isPV {ae D : Addr} {oe : Obj} {ne nc : Str} {T : String} {pe pc : Pos} (hp : (ae, oe) ∈ X.pn) (C : ExcC X.K D) (hz : Zc (.ref D) none oe) (hf : ∃ vs, oe.data = .fields vs) (mi : X.mg n = none) (mc : X.mg nc = none) (hk : PySem.W.kitOne X.K (.ref D) (.type T) = some k) (i : Nat)
    (hi : ρ[i]? = some (some (.x ae)) := by rfl) (hN : X.N[i]? = some ne := by rfl) (hv : Vis X.env.scope ne := by first | exact Or.inl rfl | exact Or.inr (Or.inl rfl) | exact Or.inr (Or.inr rfl)) (hd : (ne == ("__debug__" : Str)) = false := by decide) (hcd : (ne == ("__classdict__" : Str)) = false := by decide)
    (g : X.mg n = none → Blt X n (.builtin "isinstance") := by exact fun h => blt h) (gc : X.mg nc = none → Blt X nc (.type T) := by exact fun h => blt h)
    (s : Arg1 X (.Name ne pe) [.Name nc pc] pos := by exact a1) (s2 : starEach [.Name nc pc] X.env = (false, eval (.Name nc pc) X.env) :: starEach [] X.env := by rfl) : DK X (.Call (.Name n p) [.Name ne pe, .Name nc pc] [] pos) ρ (.bool k) :=
  dk_isP hp C hz hf (g mi) (pe_bltn (v := .ty T) (gc mc).gl (gc mc).mg (gc mc).bt rfl (gc mc).nn (gc mc).nd) (fun u h => h) hk hN hv hd hcd s s2 hi
end

/-! ### such a def's promise -/
structure FnE (P : Program) (w : World) (K : PySem.W.Frag) (mg : Str → Option Value) (base : Heap) (k : Nat) (f : Addr) (fd : FuncData) (ps : List Str) (D : Addr) (d : PyData) : Prop where
  one : ps.length = 1
  run : ∀ (A : Around) (outer : List Env) (s : Shared) (H : Hp) (args : Args) (u : Value) (Q : VK) (q : Addr × Obj), L2H.RoomH k A → L2H.PinOk outer H s q → Zc (.ref D) none q.2 → (∃ vs, q.2.data = .fields vs) → Env0 P w K mg base A outer s H →
    BindsTo s fd args (ps.zip [u]) → RelV (.ref q.1) u → (∀ v H', Ex H H' → Rp K H' v d → Q v H') → codeAny (model P w) A (.call (.ref f) args) (CR (L2.CX P w) outer P w H s Q (fun _ _ _ => False)) s
theorem fnE_of {P : Program} {w : World} {K : PySem.W.Frag} {mg : Str → Option Value} {base : Heap} {k : Nat} {f D : Addr} {x qual : Str} {st : Stmt} {fd : FuncData} {N ps : List Str} {d : PyData} (F : Fun K x qual st f fd) (Sc : FnScope N ps (defScope st)) (hone : ps.length = 1) (hd : scalD d = true)
    (body : ∀ (cdv : Value) (A : Around) (outer : List Env) (s : Shared) (H : Hp) (q : Addr × Obj), Zc (.ref D) none q.2 → (∃ vs, q.2.data = .fields vs) →
      DSs (L2H.cxH (L2.CX P w) P w K mg base N qual (defScope st) f cdv A outer s H (fun _ _ _ => False) q) (fun _ _ _ _ => False) (defBody st) (some (.x q.1) :: List.replicate (N.length - 1) none) (fnK (.k d))) :
    FnE P w K mg base (k + 1) f fd ps D d := by
  refine ⟨hone, ?_⟩
  intro A outer s H args u Q q room pin cls flds env bnd ru post
  obtain ⟨oc, od, kV, doc, pm, an, cdv, ct, osl, rfl, lk, hcd⟩ := F.ex
  have inH : K.In s.heap := env.mod.kin.keeps fun b o z => (env.bs b o z).1
  have noLim : s.heap.NoLimit := env.mod.nolimit.keeps fun b o z => (env.bs b o z).1
  have kinds : ∀ y ∈ ps.zip [u], (defScope st).names.lookup y.1 = some .local ∨ ((defScope st).names.lookup y.1 = some .cell ∧ ((cellsFrom (s.heap.objs.size + 1) (defScope st).names []).lookup y.1).isSome = true) := by
    rintro ⟨n1, v1⟩ hy
    cases Sc.par n1 (List.of_mem_zip hy).1 with
    | inl z => exact .inl z
    | inr z => exact .inr ⟨z, PySem.W.cellsFrom_some _ _ _ (.inl z)⟩
  apply codeAny_call_function room.depth (inH _ _ lk) rfl Sc.co Sc.gen rfl (PySem.W.codeRec_of inH hcd)
  apply bnd
  apply wpAny_newFunctionEnv_cells Sc.kind kinds
  rintro _ rfl s1 laid
  refine ⟨noLim.keeps laid.toInCall.keep, codeAny_func ?_⟩
  have start := L2H.inv_startH (CX := L2.CX P w) (E := fun _ _ _ => False) Sc pin env (vs := [V.ref q.1]) (by rw [hone]; rfl) (.cons ru .nil) laid
  have hN : 1 ≤ N.length := by
    have z := congrArg List.length Sc.pre
    rw [List.length_take, hone] at z
    omega
  have rel : Rel (κ := K) ⟨H, H⟩ (some (.x q.1) :: List.replicate (N.length - 1) none) (L2.start N [V.ref q.1]) H H := by
    refine ⟨Ex.refl _, Ex.refl _, Ex.refl _, (fun b o z z' => by have z2 : H b = none := z'; rw [z] at z2; cases z2), ?_, ?_, ?_⟩
    · unfold L2.start
      simp
    · intro j s0 h0
      cases j with
      | zero =>
        cases h0
        exact ⟨.ref q.1, by unfold L2.start; rfl, rfl⟩
      | succ j =>
        rw [List.getElem?_cons_succ, List.getElem?_replicate] at h0
        split at h0 <;> cases h0
    · intro j1 j2 s0 t0 v0 w0 r0 h1 h2 h3 h4 h5 h6
      exfalso
      cases j1 with
      | zero =>
        cases h1
        exact h5
      | succ j1 =>
        rw [List.getElem?_cons_succ, List.getElem?_replicate] at h1
        split at h1 <;> cases h1
  have ends : ∀ (v : V) (H' : Hp) (o : Rs), ResB (κ := K) ⟨H, H⟩ H' v o → o = .k d → Q v H' := by
    rintro v H' o r rfl
    obtain ⟨S', t, r⟩ := r
    exact post v H' t.h (r.scal hd)
  have walked := (body cdv A outer s H q cls flds ⟨H, H⟩).run [] s1 _ H { nx := fun _ H' => Q .non H', rt := Q } start ⟨⟨H, rel⟩, ⟨fun r1 σ1 H1 S1 R1 z => ends .non H1 (.k .none) ⟨S1, R1.base, .non⟩ (show Rs.k d = Rs.k .none from z).symm, fun _ _ _ _ _ z => z.elim, fun _ _ _ _ _ z => z.elim, fun o v1 H1 z z' => ends _ _ _ z z', fun _ _ _ _ _ z => by cases z⟩⟩
  refine wpAny_mono walked (fun fl s' out => ?_) fun _ _ out => out
  cases fl with
  | brk =>
    obtain ⟨_, _, _, z⟩ := out
    exact z.elim
  | cont =>
    obtain ⟨_, _, _, z⟩ := out
    exact z.elim
  | next =>
    obtain ⟨σ1, H1, J, z⟩ := out
    exact ⟨V.non, H1, J.os, J.bare, J.base, J.hok, rfl, z⟩
  | ret u1 =>
    obtain ⟨v1, σ1, H1, J, ru1, z⟩ := out
    exact ⟨v1, H1, J.os, J.bare, J.base, J.hok, ru1, z⟩
/-- as the module has it -/
def GDefE (P : Program) (w : World) (K : PySem.W.Frag) (mg : Str → Option Value) (base : Heap) (n : Str) (ψ : Addr → PyData → Prop) (k : Nat) : Prop :=
  ∃ f fd ps, (∀ D d, ψ D d → FnE P w K mg base k f fd ps D d) ∧ mg n = some (.ref f) ∧ PySem.W.keepIn K (.ref f) = true ∧ Binds K fd ps []
section
variable {X : Cx} {ρ : Rho} {n ne : Str} {pos p pe : Pos} {d : PyData}
/-- name(error) in the suite -/
theorem ce_suite {a0 D : Addr} {oe : Obj} {pn : List (Addr × Obj)} {k j : Nat} {ψ : Addr → PyData → Prop} (g : GDefE X.prog X.w X.K X.mg X.base n ψ k) (hr : Room j X.A) (h : ψ D d) (hsc : scalD d = true) (hz : Zc (.ref D) none oe) (hf : ∃ vs, oe.data = .fields vs) (i : Nat) (hk : k ≤ j := by decide)
    (hi : ρ[i]? = some (some (.x a0)) := by rfl) (hN : X.N[i]? = some ne := by rfl) (hv : Vis X.env.scope ne := by first | exact Or.inl rfl | exact Or.inr (Or.inl rfl) | exact Or.inr (Or.inr rfl)) (hd : (ne == ("__debug__" : Str)) = false := by decide) (hcd : (ne == ("__classdict__" : Str)) = false := by decide)
    (gl : Gl X n := by rfl) (nd : (n == ("__debug__" : Str)) = false := by decide) (s : Arg1 (X.suite a0 ((a0, oe) :: pn)) (.Name ne pe) [] pos := by exact a1) :
    DK (X.suite a0 ((a0, oe) :: pn)) (.Call (.Name n p) [.Name ne pe] [] pos) ρ d := fun B => by
  obtain ⟨f, fd, ps, F, hm, hkeep, hb⟩ := g
  have FE := F D d h
  refine ⟨fun pins s0 σ H Q I ⟨S, R, q⟩ => ?_⟩
  obtain ⟨v0, g1, g2⟩ := R.sl i _ hi
  cases g2
  have args : PA (X.suite a0 ((a0, oe) :: pn)) [.Name ne pe] (fun σ H T => ∃ v, σ[i]? = some (some v) ∧ T [v] H) :=
    (pa_cons (pe_var (X := X.suite a0 ((a0, oe) :: pn)) (i := i) hN hv hd hcd) pa_nil s.st).imp fun σ H T z => z
  refine wpAny_Call_Name_kw (ld_glob (X := X.suite a0 ((a0, oe) :: pn)) I gl hm ?_ nd)
  refine PySem.W.callWith_K (h₀ := X.base) I.ok.mod.kin hkeep (thn (args.run pos pins s0 σ H (fun vs H1 => vs = [V.ref a0] ∧ H1 = H) I ⟨_, g1, rfl, rfl⟩) ?_) s.st s.pl
  rintro us s1 ⟨vs, H1, I1, r, rfl, rfl⟩
  refine ⟨I1.kIn, ?_⟩
  obtain ⟨u, rfl, ru⟩ := r.one
  have pin := I1.pin (a0, oe) (List.mem_append_left _ List.mem_cons_self)
  have pok : L2H.PinOk X.stack H1 s1 (a0, oe) := ⟨pin.1, pin.2.1, fun z => (List.mem_cons.mp (I1.stkSub a0 z)).elim pin.2.2.1 pin.2.2.2.1, pin.2.2.2.2⟩
  have room : L2H.RoomH k (X.suite a0 ((a0, oe) :: pn)).A := ⟨(L2H.roomH_of (hr.mono hk)).dp, (L2H.roomH_of (hr.mono hk)).un⟩
  have bd := hb s1 [u] I1.kIn (by rw [List.append_nil, FE.one]; rfl)
  rw [List.append_nil] at bd
  refine wpAny_call (codeAny_mono (FE.run _ _ s1 H1 ⟨[u], []⟩ u Q (a0, oe) room pok hz hf I1.env0 bd ru fun v H2 e2 rv => q v H2 S (.heap R.sub e2) (rv.scal hsc)) fun r s' z => ?_)
  cases r with
  | ok fl =>
    cases fl with
    | ret u => exact I1.after z
    | next => exact z.elim
    | brk => exact z.elim
    | cont => exact z.elim
  | error e0 =>
    obtain ⟨_, _, _, _, _, _, _, _, _, _, _, _, no⟩ := z
    exact no.elim
end
end Dt

/-! Dt: texts, as lists of signs. -/
namespace Dt
open PySem PySem.Spec PyProof.Rows L2
/-- a text of these signs -/
abbrev sS (l : List Nat) : Str := ⟨l.toArray⟩
abbrev sD (l : List Nat) : PyData := .str (sS l)
theorem sS_len (l : List Nat) : (sS l).length = l.length := by simp [Str.length]
theorem sS_inj {l l' : List Nat} : sS l = sS l' ↔ l = l' := by
  constructor
  · intro h
    have h2 := congrArg (fun s : Str => s.cps.toList) h
    exact h2
  · intro h; rw [h]
theorem sS_append (l l' : List Nat) : sS l ++ sS l' = sS (l ++ l') := TL.ext_tl (by rw [TL.tl_append])
def cutN (l : List Nat) (lo hi : Option Int) : List Nat := (l.drop (HT.sIx l.length 0 lo)).take (HT.sIx l.length l.length hi - HT.sIx l.length 0 lo)
theorem cutS_sS (l : List Nat) (lo hi : Option Int) : cutS (sS l) lo hi = sS (cutN l lo hi) := by
  unfold cutS cutN
  rw [sS_len]
section
variable {X : Cx} {W : WX} {e a b c : Expr} {es : List Expr} {ρ ρ' : Rho} {x y z : PyData} {xs ys : List PyData} {pos p2 p : Pos} {i j m : Int} {n : Str} {k : Bool} {st : Stmt} {rest body orelse : List Stmt} {K : En} {l l' : List Nat}
theorem ixS {q : Nat} (ha : DE X a ρ (sD l)) (hb : DE X b ρ (.int j)) (hl : l.length ≤ 1000000) (h : L2.atI l j = some q) (hs : PlainIx b := by (intro _ _; rfl)) : DK X (.Subscript a b pos) ρ (sD [q]) :=
  dk_ixS ha hb hs (by rw [sS_len, sizeLine_eq]; omega) h
theorem slS {lo hi : Option Expr} {u w : Option Int} (ha : DE X a ρ (sD l)) (hl : DO X lo ρ u) (hu : DO X hi ρ w) (hz : l.length ≤ 1000000) : DK X (.Subscript a (.Slice lo hi none p2) pos) ρ (sD (cutN l u w)) :=
  (dk_slS ha hl hu (by rw [sS_len, sizeLine_eq]; omega)).cast (by rw [cutS_sS])
theorem addS (ha : DE X a ρ (sD l)) (hb : DE X b ρ (sD l')) (hz : l.length + l'.length ≤ 1000000) : DK X (.BinOp a .Add b pos) ρ (sD (l ++ l')) :=
  (dk_adds ha hb (by rw [sS_len, sS_len, sizeLine_eq]; omega)).cast (by rw [sS_append])
theorem strN {d : Nat} (ha : DE X e ρ (nI d)) (hd : d < 10) (mn : X.mg n = none) (g : X.mg n = none → Blt X n (.type "str") := by exact fun h => blt h) (s : Arg1 X e [] pos := by exact a1) : DK X (.Call (.Name n p) [e] [] pos) ρ (sD [48 + d]) :=
  (dk_strI (g mn) ha s (by
    rw [Int.natAbs_natCast]
    have : d.log2 ≤ d := Nat.log2_le_self d
    omega)).cast (by
    show PyData.str _ = PyData.str _
    congr 1
    refine TL.ext_tl ?_
    have := TL.tl_num d
    rw [TL.numL_lt hd] at this
    exact this)
theorem lenC (ha : DE X e ρ (sD l)) (mn : X.mg n = none) (hz : l.length ≤ 1000000) (g : X.mg n = none → Blt X n (.builtin "len") := by exact fun h => blt h) (s : Arg1 X e [] pos := by exact a1) : DK X (.Call (.Name n p) [e] [] pos) ρ (nI l.length) :=
  (dk_lenS (g mn) ha s (by rw [sS_len, sizeLine_eq]; omega)).cast (by rw [sS_len])
/-- a sign in a text -/
theorem db_inC {q : Nat} {t : Str} (hm : behindInMarks .In b = false) (ha : DE X a ρ (sD [q])) (hb : DE X b ρ (.str t)) : DB X (.Compare a [.In] [b] pos) ρ (decide (q ∈ t.cps.toList)) :=
  db_cmp op_in_sign ha hb hm fun u v H Q h1 h2 w => ⟨q, t, h1.str', h2.str', w⟩
theorem db_ninC {q : Nat} {t : Str} (hm : behindInMarks .NotIn b = false) (ha : DE X a ρ (sD [q])) (hb : DE X b ρ (.str t)) : DB X (.Compare a [.NotIn] [b] pos) ρ (!decide (q ∈ t.cps.toList)) :=
  db_cmp op_notIn_sign ha hb hm fun u v H Q h1 h2 w => ⟨q, t, h1.str', h2.str', w⟩
theorem scal_S {u v : V} {H : Hp} (h1 : Rp X.K H u (sD l)) (h2 : Rp X.K H v (sD l')) {Q : Bool → Prop} (q : Q (decide (l = l'))) : scal u v = true ∧ Q (decide (u = v)) := by
  rw [h1.str', h2.str']
  refine ⟨rfl, ?_⟩
  have : decide (V.str (sS l) = V.str (sS l')) = decide (l = l') := by
    by_cases h : l = l'
    · subst h; simp
    · rw [decide_eq_false h, decide_eq_false fun z => h (sS_inj.mp (V.str.inj z))]
  rw [this]
  exact q
theorem db_eqS (ha : DE X a ρ (sD l)) (hb : DE X b ρ (sD l')) : DB X (.Compare a [.Eq] [b] pos) ρ (decide (l = l')) := db_cmp op_eq ha hb (nomark _) fun u v H Q h1 h2 q => scal_S (Q := fun k => Q (.bl k) H) h1 h2 q
theorem db_neS (ha : DE X a ρ (sD l)) (hb : DE X b ρ (sD l')) : DB X (.Compare a [.NotEq] [b] pos) ρ (!decide (l = l')) := db_cmp op_ne ha hb (nomark _) fun u v H Q h1 h2 q => scal_S (Q := fun k => Q (.bl (!k)) H) h1 h2 q
/-- int(a figure) -/
theorem intText_fig : ∀ d : Nat, d < 10 → PySem.intText? (sS [48 + d]) = some (d : Int) := by
  intro d hd
  have := TL.int_num (n := d) (by rw [TL.numL_lt hd]; exact Nat.le_of_ble_eq_true rfl)
  have e : (Str.ofString (toString ((d : Nat) : Int))) = sS [48 + d] := TL.ext_tl (by rw [TL.tl_num, TL.numL_lt hd])
  rw [e] at this
  exact this
theorem intC {d : Nat} (ha : DE X e ρ (sD [48 + d])) (hd : d < 10) (mn : X.mg n = none) (g : X.mg n = none → Blt X n (.type "int") := by exact fun h => blt h) (s : Arg1 X e [] pos := by exact a1) : DK X (.Call (.Name n p) [e] [] pos) ρ (nI d) :=
  dk_callTy call_int_str (g mn) (dae1 ha s) s.st s.pl rfl fun vs H Q r q => by
    obtain ⟨v, rfl, h⟩ := r.one'
    exact ⟨sS [48 + d], d, by rw [h.str'], intText_fig d hd, by rw [sS_len]; exact Nat.le_of_ble_eq_true rfl, q _ (.int _)⟩
theorem RpA.strs {κ : PySem.W.Frag} {H : Hp} : ∀ {ls : List (List Nat)} {vs : List V}, RpA κ H vs (ls.map sD) → vs = ls.map fun l => V.str (sS l)
  | [], _, .nil => rfl
  | _ :: ls, _, .cons h r => by
    cases h
    rw [RpA.strs r]
    rfl
/-- text.split(one sign) -/
def splN (c : Nat) (l : List Nat) : List (List Nat) := TL.spl [c] 0 [] l
theorem splN_part {c : Nat} {u r : List Nat} (h : c ∉ u) : splN c (u ++ c :: r) = u :: splN c r := by
  have := TL.spl_part1 (s := c) (S := []) (p := u) (rest := r) (acc := []) h
  exact this
theorem splN_last {c : Nat} {u : List Nat} (h : c ∉ u) : splN c u = [u] := by
  have := TL.spl_last1 (s := c) (S := []) (p := u) (acc := []) h
  exact this
theorem df_split {q : Nat} {apos : Pos} (ha : DE X a ρ (sD l)) (hb : DE X b ρ (sD [q])) (hq : q < 256) (hz : l.length ≤ 1000000) (hs : starEach [b] X.env = [(false, eval b X.env)] := by rfl) (hbase : attributeBase a "split" X.env (eval a X.env) = eval a X.env := by rfl) (hline : (apos.endLine == pos.line) = true := by rfl) :
    DF X (.Call (.Attribute a "split" apos) [b] [] pos) ρ ((splN q l).map sD) := fun B =>
  (pe_split (ha B) (hb B) hs hbase hline).imp fun σ H Q ⟨S, R, qq⟩ => ⟨S, R, fun u H1 e1 r1 => ⟨⟨_, r1.str'⟩, S, R.heap e1, fun v H2 e2 r2 => ⟨sS l, sS [q], r1.str', by rw [r2.str'], rfl, by rw [sS_len, sizeLine_eq]; omega, fun w hw => by
    have es : Txt.split (sS l) (sS [q]) = (splN q l).map sS := by
      refine TL.map_tl_inj ?_
      rw [TL.split_spl (sS l) (sS [q]) (by simp) (TL.kind_ok (by simp [hq])), List.map_map]
      show TL.spl [q] 0 [] l = _
      unfold splN
      exact (List.map_id _).symm
    rw [es, List.map_map]
    have rs : ∀ ls : List (List Nat), RpA X.K S (ls.map fun l => V.str (sS l)) (ls.map sD) := fun ls => by
      induction ls with
      | nil => exact .nil
      | cons a r ih => exact .cons (.str _) ih
    have e3 := e1.trans e2
    exact qq w _ (upd H2 w (.lst ((splN q l).map fun l => V.str (sS l)))) S (.heap R.sub (e3.trans (Ex.new hw))) (e3.back hw) ((R.sub.trans e3).back hw) upd_same (rs _)⟩⟩⟩
/-- ''.join(texts) -/
theorem dk_join0 {ls : List (List Nat)} {apos : Pos} {t : Str} (ht : t = Str.empty) (ha : DE X a ρ (.str t)) (hb : DE X b ρ (.list (ls.map sD))) (hz : (ls.map (·.length)).sum ≤ 1000000) (hs : starEach [b] X.env = [(false, eval b X.env)] := by rfl) (hbase : attributeBase a "join" X.env (eval a X.env) = eval a X.env := by rfl) (hline : (apos.endLine == pos.line) = true := by rfl) :
    DK X (.Call (.Attribute a "join" apos) [b] [] pos) ρ (sD ls.flatten) := fun B =>
  (pe_join (ha B) (hb B) hs hbase hline).imp fun σ H Q ⟨S, R, qq⟩ => ⟨S, R, fun u H1 e1 r1 => ⟨⟨_, r1.str'⟩, S, R.heap e1, fun v H2 e2 r2 => by
    subst ht
    cases r2 with
    | @lst p vs ds hp r2 =>
      have ev := RpA.strs r2
      subst ev
      refine ⟨Str.empty, p, ls.map sS, r1.str', rfl, .inl (.of (by rw [List.map_map]; exact hp)), ?_, ?_⟩
      · rw [List.map_map]
        have : ((ls.map ((·.length) ∘ sS)).sum) = (ls.map (·.length)).sum := by
          congr 1
        rw [this]
        show _ + _ * 0 ≤ _
        rw [Nat.mul_zero]
        omega
      · have ej : Txt.join Str.empty (ls.map sS) = sS ls.flatten := by
          refine TL.ext_tl ?_
          rw [TL.join_eq, TL.tl_join, List.map_map]
          have key : ∀ ls : List (List Nat), TL.joinL [] ls = ls.flatten := by
            intro ls
            induction ls with
            | nil => rfl
            | cons a r ih =>
              cases r with
              | nil => simp [TL.joinL]
              | cons b r =>
                show a ++ ([] ++ TL.joinL [] (b :: r)) = _
                rw [ih]
                simp
          show TL.joinL [] _ = ls.flatten
          rw [show ls.map (TL.tl ∘ sS) = ls from List.map_id _]
          exact key ls
        rw [ej]
        exact qq _ H2 S (.heap R.sub (e1.trans e2)) (.str _)⟩⟩

/-- '01234'.index(a figure) -/
theorem dk_fig {d : Nat} {t : Str} {apos : Pos} (ht : t = "01234") (hd : d < 5) (ha : DE X a ρ (.str t)) (hb : DE X b ρ (sD [48 + d])) (hs : starEach [b] X.env = [(false, eval b X.env)] := by rfl) (hbase : attributeBase a "index" X.env (eval a X.env) = eval a X.env := by rfl) (hline : (apos.endLine == pos.line) = true := by rfl) :
    DK X (.Call (.Attribute a "index" apos) [b] [] pos) ρ (nI d) := fun B =>
  (pe_m1 F.slot_str_index F.type_str_index mt_sindex (ha B) (hb B) hs hbase hline).imp fun σ H Q ⟨S, R, qq⟩ => ⟨S, R, fun u H1 e1 r1 => ⟨⟨_, r1.str'⟩, S, R.heap e1, fun v H2 e2 r2 => by
    subst ht
    have ho : Builtin.Str.occurrences "01234" (sS [48 + d]) 0 (Str.ofString "01234").length 1 = d :: [] := by
      match d, hd with
      | 0, _ => decide +kernel
      | 1, _ => decide +kernel
      | 2, _ => decide +kernel
      | 3, _ => decide +kernel
      | 4, _ => decide +kernel
    exact ⟨_, _, d, [], r1.str', by rw [r2.str'], ho, qq _ H2 S (.heap R.sub (e1.trans e2)) (.int _)⟩⟩⟩
/-- a text in a tuple of texts -/
theorem inV_strs {l : List Nat} : ∀ ls : List (List Nat), inV (V.str (sS l)) (ls.map fun l => V.str (sS l)) = decide (l ∈ ls)
  | [] => by simp [inV]
  | a :: r => by
    have ih := inV_strs (l := l) r
    unfold inV at ih ⊢
    rw [List.map_cons, List.any_cons, ih]
    have e : eqV (V.str (sS a)) (V.str (sS l)) = decide (l = a) := by
      show (sS a == sS l) = _
      by_cases h : l = a
      · subst h; simp
      · rw [decide_eq_false h, Bool.eq_false_iff]
        intro z
        exact h (sS_inj.mp (beq_iff_eq.mp z)).symm
    rw [e]
    by_cases h : l = a <;> by_cases h2 : l ∈ r <;> simp [h, h2]
theorem db_ninT {ls : List (List Nat)} (hm : behindInMarks .NotIn b = false) (ha : DE X a ρ (sD l)) (hb : DE X b ρ (.tuple (ls.map sD))) : DB X (.Compare a [.NotIn] [b] pos) ρ (!decide (l ∈ ls)) :=
  db_cmp op_notIn_seq ha hb hm fun u v H Q h1 h2 w => by
    cases h2 with
    | tup hp r2 =>
      have ev := RpA.strs r2
      subst ev
      refine ⟨_, _, rfl, .inr (.of hp), by rw [h1.str']; rfl, by rw [List.all_map, List.all_eq_true]; intro z _; rfl, ?_⟩
      rw [h1.str', inV_strs]
      exact w
end
end Dt

/-! Dt: list(range), tuple(range); own dicts of numbers. -/
namespace Dt
open PySem PySem.Spec PyProof.Rows L2
variable {κ : PySem.W.Frag}
section
variable {X : Cx} {W : WX} {e a b c : Expr} {es : List Expr} {ρ ρ' : Rho} {x y z : PyData} {xs ys : List PyData} {pos p2 p : Pos} {i j m : Int} {n : Str} {k : Bool} {st : Stmt} {rest body orelse : List Stmt} {K : En}
theorem rgV_rp {H : Hp} (q : Nat) : RpA κ H (rgV 0 (q : Int)) ((List.range q).map nI) := by
  unfold rgV
  rw [show (((q : Nat) : Int) - 0).toNat = q by omega]
  have key : ∀ l : List Nat, RpA κ H (l.map fun i : Nat => V.int (0 + (i : Int))) (l.map nI) := fun l => by
    induction l with
    | nil => exact .nil
    | cons a r ih =>
      refine .cons ?_ ih
      show Rp κ H (V.int (0 + (a : Int))) (nI a)
      rw [Int.zero_add]
      exact .int _
  exact key _
/-- list(range(e)) -/
theorem listRg {q : Nat} {pl pr pq : Pos} (he : DE X e ρ (nI q)) (hq : q ≤ 1000000) (m1 : X.mg "list" = none) (m2 : X.mg "range" = none) (hc : X.calm = true := by rfl) (g1 : Gl X "list" := by rfl) (g2 : Gl X "range" := by rfl) (na : starEach [e] X.env = (false, eval e X.env) :: starEach [] X.env := by rfl)
    (nb : starEach [Expr.Call (.Name "range" pr) [e] [] pq] X.env = (false, eval (Expr.Call (.Name "range" pr) [e] [] pq) X.env) :: starEach [] X.env := by rfl) : DF X (.Call (.Name "list" pl) [.Call (.Name "range" pr) [e] [] pq] [] pos) ρ ((List.range q).map nI) := fun B =>
  (pe_listRg hc g1 m1 (prg_1 g2 m2 (he B) na) nb).imp fun σ H Q ⟨S, R, w⟩ => ⟨S, R, fun u H1 e1 r1 => ⟨q, r1.int', .of_le (by omega) (by omega) (by omega) (by omega), fun p hp => w p _ _ S (.heap R.sub (e1.trans (Ex.new hp))) (e1.back hp) ((R.sub.trans e1).back hp) upd_same (rgV_rp q)⟩⟩
/-- tuple(range(e)) -/
theorem tupRg {q : Nat} {pl pr pq : Pos} (he : DE X e ρ (nI q)) (hq : q ≤ 1000000) (m1 : X.mg "tuple" = none) (m2 : X.mg "range" = none) (hc : X.calm = true := by rfl) (g1 : Gl X "tuple" := by rfl) (g2 : Gl X "range" := by rfl) (na : starEach [e] X.env = (false, eval e X.env) :: starEach [] X.env := by rfl)
    (nb : starEach [Expr.Call (.Name "range" pr) [e] [] pq] X.env = (false, eval (Expr.Call (.Name "range" pr) [e] [] pq) X.env) :: starEach [] X.env := by rfl) : DK X (.Call (.Name "tuple" pl) [.Call (.Name "range" pr) [e] [] pq] [] pos) ρ (.tuple ((List.range q).map nI)) := fun B =>
  (pe_tupRg hc g1 m1 (prg_1 g2 m2 (he B) na) nb).imp fun σ H Q ⟨S, R, w⟩ => ⟨S, R, fun u H1 e1 r1 => ⟨q, r1.int', .of_le (by omega) (by omega) (by omega) (by omega), fun p hp => by
    have t1 : Step S H S H1 := .heap R.sub e1
    exact w (.ref p) _ _ (t1.trans (.new (o := .tup (rgV 0 q)) t1.sub hp)) (.tup upd_same (rgV_rp q))⟩⟩

/-! ### own dicts of numbers and texts -/
def putD {τ : Type} [DecidableEq τ] (kvs : List (τ × PyData)) (k : τ) (x : PyData) : List (τ × PyData) :=
  if (kvs.any fun q => decide (q.1 = k)) = true then kvs.map (fun q => if q.1 = k then (q.1, x) else q) else kvs ++ [(k, x)]
theorem PT'.keys {τ : Type} {S : Hp} : ∀ {ws : List (τ × V)} {kvs : List (τ × PyData)}, PT' κ S ws kvs → ws.map (·.1) = kvs.map (·.1)
  | _, _, .nil => rfl
  | _, _, .cons h r => by rw [List.map_cons, List.map_cons, h.1, PT'.keys r]
theorem PT'.len {τ : Type} {S : Hp} {ws : List (τ × V)} {kvs : List (τ × PyData)} (h : PT' κ S ws kvs) : ws.length = kvs.length := by
  have := congrArg List.length h.keys
  rwa [List.length_map, List.length_map] at this
theorem PT'.any {τ : Type} [DecidableEq τ] {S : Hp} {k : τ} : ∀ {ws : List (τ × V)} {kvs : List (τ × PyData)}, PT' κ S ws kvs → (ws.any fun q => decide (q.1 = k)) = kvs.any fun q => decide (q.1 = k)
  | _, _, .nil => rfl
  | _, _, .cons h r => by rw [List.any_cons, List.any_cons, h.1, PT'.any r]
theorem PT'.put {τ : Type} [DecidableEq τ] {S : Hp} {k : τ} {v : V} {x : PyData} {ws : List (τ × V)} {kvs : List (τ × PyData)} (h : PT' κ S ws kvs) (r : Rp κ S v x) : PT' κ S (putK ws k v) (putD kvs k x) := by
  unfold putK putD
  rw [h.any]
  split
  · have key : ∀ {ws : List (τ × V)} {kvs : List (τ × PyData)}, PT' κ S ws kvs → PT' κ S (ws.map fun q => if q.1 = k then (q.1, v) else q) (kvs.map fun q => if q.1 = k then (q.1, x) else q) := by
      intro ws kvs h
      induction h with
      | nil => exact .nil
      | cons h t ih =>
        refine .cons ?_ ih
        rename_i a b l1 l2
        have e : a.1 = b.1 := h.1
        show (if a.1 = k then (a.1, v) else a).1 = (if b.1 = k then (b.1, x) else b).1 ∧ Rp κ S (if a.1 = k then (a.1, v) else a).2 (if b.1 = k then (b.1, x) else b).2
        by_cases hk : b.1 = k
        · rw [if_pos (e.trans hk), if_pos hk]
          exact ⟨e, r⟩
        · rw [if_neg (fun z => hk (e.symm.trans z)), if_neg hk]
          exact h
    exact key h
  · exact Paired.snoc' h ⟨rfl, r⟩
theorem putD_len {τ : Type} [DecidableEq τ] (kvs : List (τ × PyData)) (k : τ) (x : PyData) : (putD kvs k x).length ≤ kvs.length + 1 := by
  unfold putD
  split
  · rw [List.length_map]; omega
  · rw [List.length_append]; exact Nat.le_refl _
variable {kvs : List (Key × PyData)}
/-- name = {} -/
theorem ds_newK (i : Nat) {pn : Pos} (hN : X.N.Nodup) (hi : X.N[i]? = some n) (hx : L2.Loc X.env.scope n) (hf : X.fn n = true ∨ X.env.scope.names.lookup n = some .local) (hs : swapsWith (.Dict [] [] p2) (some (.Name n pn)) pos.line X.env = pure false) (h : K.nx (ρ.set i (some (.k [])))) :
    DS X W (.Assign [.Name n pn] (.Dict [] [] p2) pos) ρ K := fun B =>
  (ps_set hN hi hx pe_dnewK hs hf).imp fun D σ H ⟨⟨S, R⟩, A⟩ => fun p hp => A.nx _ _ _ S (R.setO (Ex.new hp) (R.heap (Ex.new hp)) i (s := .k []) (fun q hq => by cases hq; exact hp) ⟨p, [], rfl, R.exH.back hp, R.sub.back hp, upd_same, .nil⟩) h
/-- name[e] = v -/
theorem ds_putK (i : Nat) {key : Key} {pn sp : Pos} (hu : X.A.units + 1 < cLine) (hN : X.N[i]? = some n) (hv : Vis X.env.scope n) (hd : (n == ("__debug__" : Str)) = false) (hcd : (n == ("__classdict__" : Str)) = false)
    (hs : swapsWith e (some (.Subscript (.Name n pn) a sp)) pos.line X.env = pure false) (hi : ρ[i]? = some (some (.k kvs))) (he : DK X e ρ x) (ha : DE X a ρ (keyD key)) (hz : kvs.length < 1000000) (h : K.nx (ρ.set i (some (.k (putD kvs key x))))) :
    DS X W (.Assign [.Subscript (.Name n pn) a sp] e pos) ρ K := fun B =>
  (ps_dput hu (pe_var hN hv hd hcd) (ha B) (he B) hs).imp fun D σ H ⟨⟨S, R⟩, A⟩ => ⟨S, R, fun v H1 S1 t1 r1 => by
    have R1 := R.step t1
    obtain ⟨v0, g1, p, ws, rfl, g2, g3, g4, g5⟩ := R1.sl i _ hi
    refine ⟨_, g1, S1, R1, fun u H2 e2 r2 => ?_⟩
    have R2 := R1.heap e2
    have hk : u = kV key := by
      cases key with
      | inl j => exact r2.int'
      | inr t => exact r2.str'
    subst hk
    refine ⟨p, _, rfl, .k (e2 _ _ g4) (by rw [g5.len, sizeLine_eq]; omega), ?_⟩
    exact A.nx _ _ _ S1 (R2.mutO hi g1 rfl (s' := .k (putD kvs key x)) (fun q hq => .inl hq) ⟨p, _, rfl, g2, g3, upd_same, g5.put r1⟩) h⟩
/-- sorted(name) of numbers -/
theorem df_sortK (i : Nat) {ks ns : List Int} {pn : Pos} (hc : X.calm = true) (g : Blt X n (.builtin "sorted")) {m0 : Str} (hN : X.N[i]? = some m0) (hv : Vis X.env.scope m0) (hd : (m0 == ("__debug__" : Str)) = false) (hcd : (m0 == ("__classdict__" : Str)) = false) (s : Arg1 X (.Name m0 pn) [] pos)
    (hi : ρ[i]? = some (some (.k kvs))) (hk : kvs.map (·.1) = ks.map Sum.inl) (hl : ks.length < 64) (hp : ns.Perm ks) (ho : ns.Pairwise (· ≤ ·)) : DF X (.Call (.Name n p) [.Name m0 pn] [] pos) ρ (ns.map .int) := fun B =>
  (pe_callB (call_sortedDI hc) g.gl g.mg g.bt (pa_cons (pe_var hN hv hd hcd) pa_nil s.st) g.nn g.nd s.st s.pl).imp fun σ H Q ⟨S, R, w⟩ => by
    obtain ⟨v0, g1, q, ws, rfl, g2, g3, g4, g5⟩ := R.sl i _ hi
    refine ⟨_, g1, q, ws, ks, rfl, .of g4, by rw [g5.keys]; exact hk, hl, fun ys pp hy hs hpp => ?_⟩
    have e : ys = ns := (hy.trans hp.symm).eq_of_pairwise (fun a b _ _ h1 h2 => Int.le_antisymm h1 h2) hs ho
    subst e
    have ri : ∀ l : List Int, RpA X.K S (l.map V.int) (l.map .int) := fun l => by
      induction l with
      | nil => exact .nil
      | cons a r ih => exact .cons (.int a) ih
    exact w pp _ _ S (.heap R.sub (Ex.new hpp)) hpp (R.sub.back hpp) upd_same (ri ys)

theorem newK (i : Nat) {pn : Pos} (h : K.nx (ρ.set i (some (.k [])))) (hN : X.N.Nodup := by assumption) (hi : X.N[i]? = some n := by rfl) (hx : L2.Loc X.env.scope n := by first | exact Or.inl rfl | exact Or.inr rfl) (hf : X.fn n = true ∨ X.env.scope.names.lookup n = some .local := by first | exact .inl rfl | exact .inr rfl) (hs : swapsWith (.Dict [] [] p2) (some (.Name n pn)) pos.line X.env = pure false := by rfl) :
    DS X W (.Assign [.Name n pn] (.Dict [] [] p2) pos) ρ K := ds_newK i hN hi hx hf hs h
theorem putKI (i : Nat) {q : Nat} {pn sp : Pos} {r : Nat} (hr : Room r X.A) (he : DK X e ρ x) (ha : DE X a ρ (nI q)) (hz : kvs.length < 1000000) (h : K.nx (ρ.set i (some (.k (putD kvs (.inl (q : Int)) x))))) (hi : ρ[i]? = some (some (.k kvs)) := by rfl) (hN : X.N[i]? = some n := by rfl) (hv : Vis X.env.scope n := by first | exact Or.inl rfl | exact Or.inr (Or.inl rfl) | exact Or.inr (Or.inr rfl)) (hd : (n == ("__debug__" : Str)) = false := by decide) (hcd : (n == ("__classdict__" : Str)) = false := by decide)
    (hs : swapsWith e (some (.Subscript (.Name n pn) a sp)) pos.line X.env = pure false := by rfl) : DS X W (.Assign [.Subscript (.Name n pn) a sp] e pos) ρ K := ds_putK i (key := .inl (q : Int)) (hu_of hr) hN hv hd hcd hs hi he ha hz h
theorem sortK (i : Nat) {ks ns : List Nat} {pn : Pos} {m0 : Str} (mn : X.mg n = none) (hk : kvs.map (·.1) = ks.map fun o : Nat => Sum.inl (o : Int)) (hl : ks.length < 64) (hp : ns.Perm ks) (ho : ns.Pairwise (· ≤ ·)) (hi : ρ[i]? = some (some (.k kvs)) := by rfl) (hc : X.calm = true := by rfl) (g : X.mg n = none → Blt X n (.builtin "sorted") := by exact fun h => blt h)
    (hN : X.N[i]? = some m0 := by rfl) (hv : Vis X.env.scope m0 := by first | exact Or.inl rfl | exact Or.inr (Or.inl rfl) | exact Or.inr (Or.inr rfl)) (hd : (m0 == ("__debug__" : Str)) = false := by decide) (hcd : (m0 == ("__classdict__" : Str)) = false := by decide) (s : Arg1 X (.Name m0 pn) [] pos := by exact a1) : DF X (.Call (.Name n p) [.Name m0 pn] [] pos) ρ (ns.map nI) :=
  (df_sortK i (ks := ks.map fun o : Nat => (o : Int)) (ns := ns.map fun o : Nat => (o : Int)) hc (g mn) hN hv hd hcd s hi (by rw [hk, List.map_map]; rfl) (by rw [List.length_map]; exact hl) (hp.map _) (by rw [List.pairwise_map]; exact ho.imp fun h => by omega)).cast (by rw [List.map_map]; rfl)
theorem putD_keys {τ : Type} [DecidableEq τ] (kvs : List (τ × PyData)) (k : τ) (x : PyData) : (putD kvs k x).map (·.1) = if k ∈ kvs.map (·.1) then kvs.map (·.1) else kvs.map (·.1) ++ [k] := by
  have e : (kvs.any fun q => decide (q.1 = k)) = decide (k ∈ kvs.map (·.1)) := by
    rw [Bool.eq_iff_iff, List.any_eq_true, decide_eq_true_eq, List.mem_map]
    constructor
    · rintro ⟨q, h1, h2⟩; exact ⟨q, h1, of_decide_eq_true h2⟩
    · rintro ⟨q, h1, h2⟩; exact ⟨q, h1, decide_eq_true h2⟩
  unfold putD
  rw [e]
  by_cases h : k ∈ kvs.map (·.1)
  · rw [if_pos (decide_eq_true h), if_pos h, List.map_map]
    refine List.map_congr_left fun q _ => ?_
    show (if q.1 = k then (q.1, x) else q).1 = q.1
    split <;> rfl
  · rw [if_neg (by rw [decide_eq_false h]; exact Bool.false_ne_true), if_neg h, List.map_append]
    rfl

theorem ixN_nat {m q : Nat} (h : q < m) : ixN m (q : Int) = some q := by
  unfold ixN
  rw [if_pos (by omega), if_pos (by omega), Int.toNat_natCast]
/-- name[q] = e, an own list of numbers -/
theorem setIN (i : Nat) {l : List Nat} {q r : Nat} {pn sp : Pos} (he : DK X e ρ (nI r)) (hj : DE X a ρ (nI q)) (hq : q < l.length) (h : K.nx (ρ.set i (some (.l ((l.set q r).map nI))))) (hi : ρ[i]? = some (some (.l (l.map nI))) := by rfl) (hN : X.N[i]? = some n := by rfl) (hv : Vis X.env.scope n := by first | exact Or.inl rfl | exact Or.inr (Or.inl rfl) | exact Or.inr (Or.inr rfl)) (hd : (n == ("__debug__" : Str)) = false := by decide) (hcd : (n == ("__classdict__" : Str)) = false := by decide)
    (ha : ∀ v, assign (.Subscript (.Name n pn) a sp) X.env v = (do
      let ov ← holding [v] (eval (.Name n pn) X.env)
      let iv ← holding [v, ov] (eval a X.env)
      standAt sp
      holding [v, ov, iv] (setItem ov iv v)
      release [v, ov, iv] []) := by intro _; rfl)
    (hs : swapsWithSole [.Subscript (.Name n pn) a sp] e pos.line X.env = pure false := by rfl) (hw : swappedStores [.Subscript (.Name n pn) a sp] e X.env = pure none := by rfl)
    (h1 : (assignEach [.Subscript (.Name n pn) a sp] X.env).map (·.2) = [assign (.Subscript (.Name n pn) a sp) X.env] := by rfl) : DS X W (.Assign [.Subscript (.Name n pn) a sp] e pos) ρ K :=
  ds_setI i hN hv hd hcd ha hs hw h1 hi he hj (ixN_nat (by rw [List.length_map]; exact hq)) (by rw [← List.map_set]; exact h)

theorem di_enumN {l : List Nat} {pn tp : Pos} {elts : List Expr} {kk : Nat} (mn : X.mg "enumerate" = none) (he : DK X e ρ (nL l)) (gl : Gl X "enumerate" := by rfl) (s : starEach [e] X.env = [(false, eval e X.env)] := by rfl) :
    DI X (.Tuple elts kk tp) (.Call (.Name "enumerate" pn) [e] [] pos) ρ ((l.zipIdx.map fun q => (q.2, q.1)).map fun p : Nat × Nat => .tuple [nI p.1, nI p.2]) := by
  have h := di_enum (pos := pos) (pn := pn) (tp := tp) (elts := elts) (kk := kk) (blt (u := .type "enumerate") mn gl) s he
  have e2 : enumD (l.map nI) = (l.zipIdx.map fun q => (q.2, q.1)).map fun p : Nat × Nat => .tuple [nI p.1, nI p.2] := by
    unfold enumD
    rw [List.zipIdx_map, List.map_map, List.map_map]
    rfl
  rw [e2] at h
  exact h
theorem eqvAll_nil (xs : List PyData) : PyData.eqvAll xs [] = decide (xs = []) := by
  cases xs <;> simp [PyData.eqvAll]
/-- name = [elt for tg in iter] on one line -/
theorem setLc1 {α : Type} {elt iter tg : Expr} {scope : Scope} {py : Pos} (i : Nat) (own : List (Str × Nat)) (L : List α) (E : α → PyData) (g : α → PyData) (ρt : α → Rho) (hi : DI X tg iter ρ (L.map E)) (hl : L.length ≤ 16000000)
    (hg : ∀ a, a ∈ L → Blk X scope fun X' => DG X' tg (E a) (wipeR ρ (own.map (·.2))) (ρt a) (own.map (·.2))) (he : ∀ a, a ∈ L → Blk X scope fun X' => DK X' elt (ρt a) (g a)) (h : K.nx (ρ.set i (some (.l (L.map g)))))
    (hc : X.calm = true := by rfl) (hN : X.N.Nodup := by assumption) (hy : X.N[i]? = some n := by rfl) (hyl : X.env.scope.names.lookup n = some .local := by rfl) (hsw : swapsWith (.ListComp elt [⟨tg, iter, [], 0⟩] scope p2) (some (.Name n py)) pos.line X.env = pure true := by rfl)
    (ok : BlkOk X.N X.env.scope scope own := by (refine blkOk_by ?_; dsimp only [bX, cxOf, envOfC]; decide +kernel)) (hfs : ∀ x, foldedSetIterable iter X.env x = pure x := by intro _; rfl) : DS X W (.Assign [.Name n py] (.ListComp elt [⟨tg, iter, [], 0⟩] scope p2) pos) ρ K :=
  ds_setLc i L E (fun _ => true) g ρt hc hN hy hyl hsw ok hfs hi hl hg (fun a ha s H C cl fp B => ⟨fun pins s σ H Q I ⟨S, R, q⟩ => wpAny_tests_nil ⟨H, I, q H (Ex.refl _)⟩⟩) (fun a ha _ => he a ha) (by rw [List.filter_eq_self.mpr (fun _ _ => rfl)]; exact h)
end
end Dt

/-! Dt: set(list of ints), sorted of it; min of a list of data. -/
namespace Dt
open PySem PySem.Spec PyProof.Rows L2
section
/-- the set that set.__new__ lays -/
abbrev oSet0 (w : World) : Obj := { cls := .type "set", dict := none, data := .set #[] 0 (.fresh 0 0 (!w.params.followText "set-order")) }
variable {P : Program} {w : World} {A : Around} {E : Value → Shared → Prop} {s : Shared}
theorem setL_call {l : Addr} {arr : Array Value} (ms : List Int) {Qf : Value → Shared → Prop} (h0 : A.handled = none) (isl : s.heap.IsList l arr) (hints : IntsAre arr.toList ms) (few : ms.length + 1 < scanBound)
    (fin : ∀ (g : Heap) (t c : Nat), SetR w g s.heap.objs.size (fun j => decide (j ∈ ms)) c → c ≤ ms.length → (∀ b o, s.heap.get? b = some o → g.get? b = some o) → Qf (.ref s.heap.objs.size) { s with heap := g, toks := t }) :
    wpAny (model P w) A (call (.type "set") [.ref l]) Qf E s := by
  have sz : arr.size = ms.length := by
    rw [← IntsAre.length hints, Array.length_toList]
  obtain ⟨cM, tM, mroM⟩ := F.called_set.mro
  have madeM := F.called_set.made
  have subM := F.called_set.sub
  refine wpAny_call (codeAny_of_tree (show wpAny _ _ (callAny (.type "set") _) _ _ _ from ?_))
  refine wpAny_pure ⟨Code.quiet_builtin _ (by decide +kernel), codeAny_builtin F.entry_type_call (?_ : _)⟩
  rw [Around.under_plain (weight_type_call_type "set" [.ref l] []) (by rfl)]
  have n1 := F.called_set.notType
  have n2 := F.called_set.canCreate
  have n3 := F.typeCall_set_1 (.ref l)
  (repeat any_goals (first | (assumption) | wp_step))
  refine codeAny_mono (code_set_led1 (.ref l) (E := E) (Q₁ := fun ob s1 => ob = .ref s.heap.objs.size ∧ s1 = { s with heap := s.heap.push (oSet0 w) }) ⟨rfl, rfl⟩) fun r s1 hr => ?_
  cases r with
  | error e => exact hr
  | ok fl =>
  cases fl with
  | ret ob =>
    obtain ⟨rfl, rfl⟩ := hr
    have at0 : (s.heap.push (oSet0 w)).get? s.heap.objs.size = some (oSet0 w) := Heap.get?_push_size _ rfl
    have ty0 : Shared.TypeIs { s with heap := s.heap.push (oSet0 w) } (.ref s.heap.objs.size) "set" := ⟨_, at0, rfl⟩
    have i1 := F.called_set.init.lookup
    have i2 := F.called_set.init.bind (.ref s.heap.objs.size)
    (repeat any_goals (first | (assumption) | wp_step))
    refine codeAny_mono (codeAny_call_builtin (R := wants (fun r s2 => r = .none ∧ ∃ g t c, s2 = { s with heap := g, toks := t } ∧ SetR w g s.heap.objs.size (fun j => decide (j ∈ ms)) c ∧ c ≤ ms.length ∧ (∀ b o, s.heap.get? b = some o → g.get? b = some o)) E) F.called_set.init.plain F.entry_set_init (check_set_init_1 ty0 ?_)) fun r2 s2 hr2 => ?_
    · obtain ⟨ol, hol, hcl, nl, hdl⟩ := isl
      obtain ⟨oc, od, oda, osl⟩ := ol
      simp only at hcl hdl
      subst hcl; subst hdl
      have hol2 : (s.heap.push (oSet0 w)).get? l = some { cls := .type "list", dict := od, data := .seq arr nl, slots := osl } := Heap.get?_push_of_some _ hol
      have s1 := F.sub_list_set
      have s2 := F.sub_list_frozenset
      have s3 : (Value.type "list" == Value.type "dict") = false := by decide
      have isl2 : (s.heap.push (oSet0 w)).IsList l arr := ⟨_, hol2, rfl, nl, rfl⟩
      unfold Builtin.«set.__init__» noKeywords Builtin.Frozenset.updateFrom
      generalize hPI : pyIter = PI
      wp_walk
      subst hPI
      refine wpAny_pyIter_list isl2 ?_
      refine wpAny_bind (wpAny_runValue (?_ : _))
      have lt0 : l < s.heap.objs.size := Heap.lt_size hol
      have h3 : A.in1.in1.in1.handled = none := by rw [show A.in1.in1.in1.handled = A.handled from rfl]; exact h0
      have neI : l ≠ (s.heap.push (oSet0 w)).objs.size := by rw [Heap.size_push]; exact fun z => Nat.lt_irrefl _ (Nat.lt_of_le_of_lt (Nat.le_of_eq z.symm) (Nat.lt_succ_of_lt lt0))
      have nin : s.heap.objs.size ∉ [(s.heap.push (oSet0 w)).objs.size, l] := by
        rw [Heap.size_push, List.mem_cons, List.mem_singleton]
        rintro (z | z)
        · exact Nat.lt_irrefl _ (Nat.lt_of_lt_of_le (Nat.lt_succ_self _) (Nat.le_of_eq z.symm))
        · exact Nat.lt_irrefl _ (Nat.lt_of_lt_of_le lt0 (Nat.le_of_eq z))
      have val : ∀ (i : Nat) (v : Value), arr[i]? = some v → ∃ k t, ms[i]? = some k ∧ v = .int k t := fun i v hv => by
        have hi : i < ms.length := by rw [← sz]; exact (Array.getElem?_eq_some_iff.mp hv).1
        obtain ⟨t, e⟩ := PyProof.Rows.IntsAre.int_at hints i v (by rw [Array.getElem?_toList, hv])
        refine ⟨ms[i], t, List.getElem?_eq_getElem hi, ?_⟩
        rw [e, List.getD_eq_getElem?_getD, List.getElem?_eq_getElem hi] <;> exact rfl
      refine set_update_ints ((Walks.list h3 _ l neI arr).toS) s.heap.objs.size nin ms sz few val (arr.size - 0) 0 _ (by omega) (Nat.zero_le _) ⟨⟨_, Heap.get?_push_size _ rfl, rfl, rfl⟩, (isl2.push _)⟩ ⟨0, Nat.le_refl 0, setR_new_at (Heap.get?_push_of_some _ at0)⟩ ?_
      intro s' c' hm hc' hS'
      obtain ⟨g, g2, d', t', os'⟩ := s'
      have e1 : g2 = s.gens := hm.gens
      have e2 : d' = s.drawn := hm.drawn
      have e3 : os' = s.os := hm.os
      subst e1 e2 e3
      refine wpAny_pure (show wpAny _ _ (ret Value.none) _ _ _ from ?_)
      rw [sz] at hc'
      refine wpAny_pure ⟨rfl, g, t', c', rfl, hS', hc', fun b o e => ?_⟩
      have b0 : b < s.heap.objs.size := Heap.lt_size e
      refine hm.heap b o ?_ (Heap.get?_push_of_some _ (Heap.get?_push_of_some _ e))
      rw [List.mem_cons, List.mem_singleton, Heap.size_push]
      rintro (z | z)
      · exact Nat.lt_irrefl _ (Nat.lt_of_lt_of_le b0 (Nat.le_of_eq z.symm))
      · exact Nat.lt_irrefl _ (Nat.lt_of_lt_of_le (Nat.lt_succ_of_lt b0) (Nat.le_of_eq z.symm))
    · cases r2 with
      | error e => exact hr2
      | ok f2 =>
        cases f2 with
        | ret r =>
          obtain ⟨rfl, g, t, c, rfl, q1, q2, q3⟩ := hr2
          (repeat any_goals (first | (assumption) | wp_step))
          exact fin _ _ _ q1 q2 q3
        | _ => exact hr2.elim
  | _ => exact hr.elim
end
end Dt

/-! Dt: set(..), sorted(set(..)), min(..). -/
namespace Dt
open PySem PySem.Spec PyProof.Rows L2
theorem nodup_le {l : List Int} {M : Nat} (hn : l.Nodup) (hb : ∀ j ∈ l, 0 ≤ j ∧ j < (M : Int)) : l.length ≤ M := by
  have h2 : (l.map Int.toNat).Nodup := by
    rw [List.nodup_iff_pairwise_ne, List.pairwise_map]
    refine (List.nodup_iff_pairwise_ne.mp hn).imp_of_mem fun {a b} ha hb' hne => ?_
    have h1 := hb a ha
    have h2 := hb b hb'
    omega
  have hp : ((List.range M).filter (fun o => decide (o ∈ l.map Int.toNat))).Perm (l.map Int.toNat) := (List.perm_ext_iff_of_nodup (List.nodup_range.filter _) h2).mpr fun o => by
    rw [List.mem_filter, List.mem_range, decide_eq_true_eq]
    refine ⟨fun z => z.2, fun z => ⟨?_, z⟩⟩
    obtain ⟨j, hj, rfl⟩ := List.mem_map.mp z
    have := hb j hj
    omega
  have h3 := hp.length_eq
  have h4 := List.length_filter_le (fun o => decide (o ∈ l.map Int.toNat)) (List.range M)
  rw [List.length_range] at h4
  rw [List.length_map] at h3
  omega
def rSetL (K : PySem.W.Frag) (w : World) : List V → Hp → VK → Prop := fun vs H Q => ∃ (a : Addr) (ms : List Int), vs = [V.ref a] ∧ SqL K H a (ms.map V.int) ∧ ms.length < 4000 ∧
  ∀ (p : Addr) (c : Nat), H p = none → (∀ M : Nat, (∀ j ∈ ms, 0 ≤ j ∧ j < (M : Int)) → c ≤ M) → Q (.ref p) (upd H p (SetO w p (fun j => decide (j ∈ ms)) c))
section
variable {X : Cx}
theorem cr_setL (hc : X.calm = true) : CallR X (.type "set") (rSetL X.K X.w) := by
  intro pins s σ H vs us Q I r h
  obtain ⟨a, ms, rfl, hs, few, q⟩ := h
  obtain ⟨arr, rv, pl, _⟩ := I.list hs
  rw [Vals.ref1 r]
  refine setL_call ms (I.ok.hd hc) pl.isList (by simpa using rv.ints) (by unfold scanBound; omega) fun g t c R hcl hk => ?_
  have few2 : ∀ M : Nat, (∀ j ∈ ms, 0 ≤ j ∧ j < (M : Int)) → c ≤ M := fun M hM => by
    obtain ⟨o, es, ep, tb, _, _, _, _, nd, hm, _, _, hn, _⟩ := R
    have := nodup_le (M := M) nd fun j hj => hM j (of_decide_eq_true ((hm j).mpr hj))
    rw [List.length_map, Array.length_toList, hn] at this
    exact this
  exact ⟨.ref _, upd H s.heap.objs.size (SetO X.w s.heap.objs.size (fun j => decide (j ∈ ms)) c), I.laid (t' := t) (fun b u e => hk b u e) (Nat.le_refl _) (setO_new R), rfl, q _ c (I.hok.fresh (Nat.le_refl _)) few2⟩
/-- min of a list of data -/
def rMinL (K : PySem.W.Frag) : List V → Hp → VK → Prop := fun vs H Q => ∃ (a : Addr) (xs : List V) (d : PyData) (ds : List PyData), vs = [V.ref a] ∧ SqL K H a xs ∧ DpAll K H xs (d :: ds) ∧ PyData.canLayAll0 (d :: ds) = true ∧ PySem.W.AlikeAll (d :: ds) ∧ PyData.depthAll (d :: ds) ≤ 63 ∧
  ∀ (i : Nat) (v : V), xs[i]? = some v → (d :: ds)[i]? = some (PySem.W.minD d ds) → Q v H
theorem cr_minL (hc : X.calm = true) (hu : X.A.units + 64 < cLine) : CallR X (.builtin "min") (rMinL X.K) := by
  intro pins s σ H vs us Q I r h
  obtain ⟨a, xs, d, ds, rfl, hs, hd, hl, al, dp, q⟩ := h
  obtain ⟨its, rv, pl, _⟩ := I.list hs
  rw [Vals.ref1 r]
  obtain ⟨as, h4⟩ := Dp.readsAll I (d :: ds) _ its hd rv
  refine PySem.W.min_list_data (I.ok.hd hc) pl.isList (by simpa using h4) al (by omega) fun i v h' tk bs hi rm hk => ?_
  have hil : its[i]? = some v := by simpa using hi
  have e1 : (its.map (SeqAt.readOf h'))[i]? = some (PySem.W.minD d ds) := by
    have hcm : (PySem.W.minD d ds).canLay0 = true := by
      have mem : PySem.W.minD d ds ∈ d :: ds := by
        unfold PySem.W.minD
        have key : ∀ (l : List PyData) (x : PyData), l.foldl (fun a y => if PySem.W.dataLt y a then y else a) x ∈ x :: l := by
          intro l
          induction l with
          | nil => intro x; exact List.mem_cons_self
          | cons y l ih =>
            intro x
            rw [List.foldl_cons]
            have := ih (if PySem.W.dataLt y x then y else x)
            rcases List.mem_cons.mp this with z | z
            · rw [z]
              split <;> simp
            · exact List.mem_cons_of_mem _ (List.mem_cons_of_mem _ z)
        exact key ds d
      have key : ∀ (l : List PyData), PyData.canLayAll0 l = true → ∀ x ∈ l, x.canLay0 = true := by
        intro l
        induction l with
        | nil => intro _ x hx; cases hx
        | cons y l ih =>
          intro hl x hx
          simp only [PyData.canLayAll0, Bool.and_eq_true] at hl
          rcases List.mem_cons.mp hx with rfl | hx
          · exact hl.1
          · exact ih hl.2 x hx
      exact key _ hl _ mem
    rw [List.getElem?_map, hil]
    exact congrArg some (SeqAt.readOf_eq hcm rm)
  have h4' : ReadsAll h' its (d :: ds) as := ReadsAll.keeps hk h4
  have e2 := SeqAt.readsAll_map (d :: ds) its as hl h4'
  rw [e2] at e1
  have hix : i < xs.length := by rw [rv.length]; exact (List.getElem?_eq_some_iff.mp hil).1
  have hx : xs[i]? = some xs[i] := List.getElem?_eq_getElem hix
  obtain ⟨v', hv', rx'⟩ := rv.get hx
  rw [hil] at hv'
  cases hv'
  exact ⟨xs[i], H, I.kept hk, rx', q i _ hx e1⟩
end
end Dt

namespace Dt
open PySem PySem.Spec PyProof.Rows L2
section
variable {X : Cx} {W : WX} {e a b c : Expr} {es : List Expr} {ρ ρ' : Rho} {x y z : PyData} {xs ys : List PyData} {pos p2 p : Pos} {i j m : Int} {n n2 : Str} {k : Bool}
/-- a set of small numbers -/
def DSt (X : Cx) (e : Expr) (ρ : Rho) (ms : List Nat) : Prop := ∀ B : Base X.K, PE X e (fun σ H Q => ∃ S, Rel B ρ σ H S ∧ ∀ p c H2, Ex H H2 → H2 p = some (SetO X.w p (fun j => decide (j ∈ ms.map fun o : Nat => (o : Int))) c) → c < 64 → Q (.ref p) H2)
theorem RpA.nats {H : Hp} : ∀ {l : List Nat} {vs : List V}, RpA X.K H vs (l.map nI) → vs = (l.map fun o : Nat => (o : Int)).map V.int
  | [], _, .nil => rfl
  | n :: l, _, .cons h q => by rw [h.int', RpA.nats q]; rfl
theorem dst_set {ms : List Nat} {M : Nat} (hc : X.calm = true) (g : Blt X n (.type "set")) (ha : DL X e ρ (ms.map nI)) (s : Arg1 X e [] pos) (hl : ms.length < 4000) (hb : ∀ o ∈ ms, o < M) (hM : M < 64) : DSt X (.Call (.Name n p) [e] [] pos) ρ ms := fun B =>
  (pe_callTy (cr_setL hc) g.gl g.mg g.bt (pa_cons (ha B) pa_nil s.st) g.nn g.nd s.st s.pl).imp fun σ H Q ⟨S, R, q⟩ => ⟨S, R, fun a vs H1 S1 t1 ha r1 => by
    rw [r1.nats] at ha
    refine ⟨a, _, rfl, .of ha, by rw [List.length_map]; exact hl, fun p c hp hcM => q p c _ (t1.h.trans (Ex.new hp)) upd_same (Nat.lt_of_le_of_lt (hcM M fun j hj => ?_) hM)⟩
    obtain ⟨o, ho, rfl⟩ := List.mem_map.mp hj
    have := hb o ho
    omega⟩
theorem int_sorted_eq {l m : List Int} (h : l.Pairwise (· < ·)) (h2 : m.Pairwise (· < ·)) (e : ∀ x, x ∈ l ↔ x ∈ m) : l = m :=
  List.Perm.eq_of_pairwise (le := fun a b : Int => a < b) (fun a b _ _ h1 h2 => absurd h1 (by omega)) h h2 ((List.perm_ext_iff_of_nodup (h.imp fun h => by omega) (h2.imp fun h => by omega)).mpr e)
theorem df_sortSet {ms ns : List Nat} (hc : X.calm = true) (g : Blt X n (.builtin "sorted")) (ha : DSt X e ρ ms) (s : Arg1 X e [] pos) (ho : ns.Pairwise (· < ·)) (hm : ∀ o, o ∈ ns ↔ o ∈ ms) : DF X (.Call (.Name n p) [e] [] pos) ρ (ns.map nI) := fun B =>
  (pe_callB (cr_sortedSet hc) g.gl g.mg g.bt (pa_cons (ha B) pa_nil s.st) g.nn g.nd s.st s.pl).imp fun σ H Q ⟨S, R, q⟩ => ⟨S, R, fun a c H1 e1 ha hc64 => by
    refine ⟨a, _, c, rfl, ha, hc64, fun ks p hs hk hkl hp => ?_⟩
    have e : ks = ns.map fun o : Nat => (o : Int) := int_sorted_eq hs (by rw [List.pairwise_map]; exact ho.imp fun h => by omega) fun j => by
      rw [hk, decide_eq_true_eq, List.mem_map, List.mem_map]
      exact ⟨fun ⟨o, h1, h2⟩ => ⟨o, (hm o).mpr h1, h2⟩, fun ⟨o, h1, h2⟩ => ⟨o, (hm o).mp h1, h2⟩⟩
    subst e
    have ri : ∀ l : List Nat, RpA X.K S ((l.map fun o : Nat => (o : Int)).map V.int) (l.map nI) := fun l => by
      induction l with
      | nil => exact .nil
      | cons a r ih => exact .cons (.int a) ih
    exact q p _ _ S (.heap R.sub (e1.trans (Ex.new hp))) (e1.back hp) ((R.sub.trans e1).back hp) upd_same (ri ns)⟩
/-- sorted(set(e)) -/
theorem sortSet {ms ns : List Nat} {M : Nat} {q1 : Pos} (ha : DL X e ρ (ms.map nI)) (m1 : X.mg n = none) (m2 : X.mg n2 = none) (hl : ms.length < 4000) (hb : ∀ o ∈ ms, o < M) (hM : M < 64) (ho : ns.Pairwise (· < ·)) (hm : ∀ o, o ∈ ns ↔ o ∈ ms)
    (hc : X.calm = true := by rfl) (g1 : X.mg n = none → Blt X n (.builtin "sorted") := by exact fun h => blt h) (g2 : X.mg n2 = none → Blt X n2 (.type "set") := by exact fun h => blt h) (s : Arg1 X e [] p2 := by exact a1) (s2 : Arg1 X (.Call (.Name n2 q1) [e] [] p2) [] pos := by exact a1) :
    DF X (.Call (.Name n p) [.Call (.Name n2 q1) [e] [] p2] [] pos) ρ (ns.map nI) := df_sortSet hc (g1 m1) (dst_set hc (g2 m2) ha s hl hb hM) s2 ho hm
/-- min of a list of data -/
theorem minL {r : Nat} (hr : Room r X.A) (ha : DL X e ρ (x :: xs)) (mn : X.mg n = none) (h1 : SeqAt.shaped (.list (x :: xs)) = true) (hal : PySem.W.AlikeAll (x :: xs)) (hy : PySem.W.minD x xs = y) (hc : X.calm = true := by rfl) (g : X.mg n = none → Blt X n (.builtin "min") := by exact fun h => blt h) (s : Arg1 X e [] pos := by exact a1) :
    DK X (.Call (.Name n p) [e] [] pos) ρ y := fun B =>
  (pe_callB (cr_minL hc hr.units) (g mn).gl (g mn).mg (g mn).bt (pa_cons (ha B) pa_nil s.st) (g mn).nn (g mn).nd s.st s.pl).imp fun σ H Q ⟨S, R, q⟩ => ⟨S, R, fun a vs H1 S1 t1 ha r1 => by
    have hcl : PyData.canLayAll0 (x :: xs) = true := by
      unfold SeqAt.shaped at h1
      rw [Bool.and_eq_true] at h1
      simpa only [PyData.canLay0] using h1.1
    have hdp : PyData.depthAll (x :: xs) ≤ 63 := by
      unfold SeqAt.shaped at h1
      rw [Bool.and_eq_true, decide_eq_true_eq] at h1
      have := h1.2
      simp only [PyData.depth] at this
      omega
    refine ⟨a, vs, x, xs, rfl, .of ha, (r1.mono t1.sub).dp hcl, hcl, hal, hdp, fun i v hi hd => ?_⟩
    obtain ⟨d, hd2, rd⟩ := r1.getv hi
    rw [hd] at hd2
    cases hd2
    rw [hy] at rd
    exact q v H1 S1 t1 rd⟩
end
end Dt

/-! Dt: dicts whose keys are tuples: {k: v}, dict(list of pairs). -/
namespace Dt
open PySem PySem.Spec PyProof.Rows L2
section
variable {X : Cx} {pos : Pos} {k v : Expr} {tk tv : TE}
/-- {k: v}, k's value a tuple of numbers and texts -/
def tDisp1T (tk tv : TE) : TE := fun σ H Q => ∀ p, H p = none → tPairs [(tk, tv)] σ (upd H p (.dT [])) fun ps H2 => H2 p = some (.dT []) ∧ ∃ b ks y, ps = [(V.ref b, y)] ∧ H2 b = some (.tup (ks.map kV)) ∧ Q (.ref p) (upd H2 p (.dT [(ks, y)]))
theorem pe_disp1T (hu : X.A.units < cLine) (hk : PE X k tk) (hv : PE X v tv) : PE X (.Dict [some k] [v] pos) (tDisp1T tk tv) := by
  refine ⟨fun pins s σ H Q I q => ?_⟩
  have hn := I.hok.fresh (Nat.le_refl s.heap.objs.size)
  have I1 := I.laid (a := s.heap.objs.size) (o := .dT []) (h' := s.heap.push { cls := .type "dict", data := .dict #[] }) (t' := s.toks) (fun _ _ z => Heap.get?_push_of_some _ z) (Nat.le_refl _) (dt_empty s.heap I.big)
  have hlen := pairTrees_length [some k] [v] X.env pos rfl rfl
  have hne : pairTrees [some k] [v] X.env pos ≠ [] := fun z => by rw [z] at hlen; cases hlen
  rw [arm_eval_Dict, zip_pairTrees [some k] [v] X.env pos rfl rfl, dictDisplay_pairs (pairTrees [some k] [v] X.env pos) hne (by rw [hlen]; show 1 < 17; decide)]
  refine wpAny_bind (wpAny_standAt (wpAny_bind (wpAny_subDictH (knd := tupleKind (mixKind X.prog X.w)) (show (tupleKind (mixKind X.prog X.w)).room X.A from hu) (by rw [hlen]; show 1 ≤ 15; decide) ?_)))
  refine thn ((pps_cons hk hv pps_nil).run pins _ σ _ _ I1 (q _ hn)) fun ws s2 ⟨ps, H2, I2, rel, e, b, ks, y, eps, hb, q2⟩ => ?_
  subst eps
  cases rel with
  | @cons _ w1 _ _ r0 rt =>
  cases rt
  obtain ⟨u, wv⟩ := w1
  obtain ⟨ru, rw'⟩ := r0
  cases (show u = Value.ref b from ru)
  obtain ⟨z, hd, xs, rk, dd⟩ := dt_of I2.hok e
  cases rk
  refine ⟨[(ks, b, wv)], ⟨rfl, rfl, key_of I2.hok hb, trivial⟩, dd, fun h' t' dd' hs => wpAny_pure ⟨.ref s.heap.objs.size, _, ?_, rfl, q2⟩⟩
  obtain ⟨o, es, ep, ho, h2, h3, h4, _, h5⟩ := dd'
  refine d_write I2 (by rw [e]; exact True.intro) hs ⟨o, ho⟩ ⟨by rw [sizeLine_eq]; show 1 ≤ 16777216; decide, hd, [(ks, b, wv)], .cons ⟨rfl, ?_, rw'⟩ .nil, o, es, ep, ho, h2, h3, h4, h5⟩
  rw [upd_ne (ne_of hb e (fun z => nomatch z))]
  exact hb
/-- the entries of a list of pairs: the pair's place, the key, the key's place, the value -/
def EntOk (H : Hp) (e : Addr × List Key × Addr × V) : Prop := H e.1 = some (.tup [.ref e.2.2.1, e.2.2.2]) ∧ H e.2.2.1 = some (.tup (e.2.1.map kV))
def mergeT (kvs : List (List Key × V)) (es : List (Addr × List Key × Addr × V)) : List (List Key × V) := es.foldl (fun acc e => putK acc e.2.1 e.2.2.2) kvs
def rDictLT (K : PySem.W.Frag) : List V → Hp → VK → Prop := fun xs H Q => ∃ (a : Addr) (es : List (Addr × List Key × Addr × V)), xs = [.ref a] ∧ SqL K H a (es.map fun e => V.ref e.1) ∧ (∀ e ∈ es, EntOk H e) ∧ ∀ p, H p = none → Q (.ref p) (upd H p (.dT (mergeT [] es)))
theorem ents_vals {pins : List (Addr × Obj)} {σ : L2.St} {H : Hp} {s : Shared} (I : Inv X pins σ H s) : ∀ {es : List (Addr × List Key × Addr × V)}, (∀ e ∈ es, EntOk H e) → ∃ us : List Value, Paired (fun (e : Addr × List Key × Addr × V) (u : Value) => RelV e.2.2.2 u ∧ s.heap.IsTuple e.1 #[.ref e.2.2.1, u] ∧ (tupleKind (mixKind X.prog X.w)).is s.heap e.2.1 e.2.2.1 ∧ H e.2.2.1 = some (.tup (e.2.1.map kV))) es us
  | [], _ => ⟨[], .nil⟩
  | e :: es, h => by
    obtain ⟨us, p⟩ := ents_vals I (es := es) fun x hx => h x (List.mem_cons_of_mem _ hx)
    obtain ⟨h1, h2⟩ := h e List.mem_cons_self
    obtain ⟨its, rv, it, _⟩ := I.tuple (SqT.of h1)
    obtain ⟨u1, u2, e3, r1, r2⟩ := rv.two
    subst e3
    cases r1
    exact ⟨u2 :: us, .cons ⟨r2, it, key_of I.hok h2, h2⟩ p⟩
theorem storedT_rel {H : Hp} : ∀ {es : List (Addr × List Key × Addr × V)} {us : List Value} {kvs : List (List Key × V)} {xs : List (List Key × Addr × Value)}, Paired (fun (e : Addr × List Key × Addr × V) (u : Value) => RelV e.2.2.2 u ∧ H e.2.2.1 = some (.tup (e.2.1.map kV))) es us → KT H kvs xs →
    KT H (mergeT kvs es) (storedAllH xs ((es.zip us).map fun q => (q.1.2.1, q.1.2.2.1, q.2)))
  | [], _, _, _, .nil, r => r
  | e :: es, u :: us, _, _, .cons h t, r => storedT_rel (es := es) (us := us) t (r.put e.2.1 h.2 h.1)
theorem call_dictLT (hc : X.calm = true) (hu : X.A.units + 4 < cLine) : CallR X (.type "dict") (rDictLT X.K) := by
  intro pins s σ H xs us Q I r h
  obtain ⟨a, es, rfl, hl, he, q⟩ := h
  rw [Vals.ref1 r]
  obtain ⟨its, rv, pl, hz⟩ := I.list hl
  have ei := refs_at (ps := es.map (·.1)) (by rw [List.map_map]; exact rv)
  subst ei
  obtain ⟨vs, pv⟩ := ents_vals I he
  have hlv : es.length = vs.length := Paired.length pv
  have hat : ∀ (j : Nat) (e : Addr × List Key × Addr × V) (u : Value), es[j]? = some e → vs[j]? = some u → RelV e.2.2.2 u ∧ s.heap.IsTuple e.1 #[.ref e.2.2.1, u] ∧ (tupleKind (mixKind X.prog X.w)).is s.heap e.2.1 e.2.2.1 ∧ H e.2.2.1 = some (.tup (e.2.1.map kV)) := by
    have key : ∀ {es : List (Addr × List Key × Addr × V)} {vs : List Value}, Paired (fun (e : Addr × List Key × Addr × V) (u : Value) => RelV e.2.2.2 u ∧ s.heap.IsTuple e.1 #[.ref e.2.2.1, u] ∧ (tupleKind (mixKind X.prog X.w)).is s.heap e.2.1 e.2.2.1 ∧ H e.2.2.1 = some (.tup (e.2.1.map kV))) es vs → ∀ (j : Nat) (e : Addr × List Key × Addr × V) (u : Value), es[j]? = some e → vs[j]? = some u → RelV e.2.2.2 u ∧ s.heap.IsTuple e.1 #[.ref e.2.2.1, u] ∧ (tupleKind (mixKind X.prog X.w)).is s.heap e.2.1 e.2.2.1 ∧ H e.2.2.1 = some (.tup (e.2.1.map kV)) := by
      intro es vs p
      induction p with
      | nil => intro j e u h; simp at h
      | cons h t ih =>
        intro j e u h1 h2
        cases j with
        | zero => simp at h1 h2; subst h1 h2; exact h
        | succ j => exact ih j e u (by simpa using h1) (by simpa using h2)
    exact key pv
  let prs : List (Value × Value) := (es.zip vs).map fun q => (.ref q.1.2.2.1, q.2)
  let ps : List (List Key × Addr × Value) := (es.zip vs).map fun q => (q.1.2.1, q.1.2.2.1, q.2)
  have lz : (es.zip vs).length = es.length := by rw [List.length_zip]; omega
  have zat : ∀ (j : Nat) (q : (Addr × List Key × Addr × V) × Value), (es.zip vs)[j]? = some q → es[j]? = some q.1 ∧ vs[j]? = some q.2 := fun j q hq => by
    rw [List.getElem?_zip_eq_some] at hq
    exact hq
  have hpi : PairItems s.heap ((es.map (·.1)).map Value.ref).toArray (fun j => (es.getD j (0, [], 0, .non)).1) prs := by
    refine ⟨by simp [prs, lz], fun j k u hj => ?_⟩
    rw [List.getElem?_map] at hj
    cases hq : (es.zip vs)[j]? with
    | none => rw [hq] at hj; cases hj
    | some q =>
      rw [hq] at hj
      cases hj
      obtain ⟨e1, e2⟩ := zat j q hq
      obtain ⟨_, f2, _, _⟩ := hat j _ _ e1 e2
      refine ⟨?_, ?_⟩
      · simp [e1]
      · show PairAt s.heap (es.getD j (0, [], 0, .non)).1 _ _
        rw [List.getD_eq_getElem?_getD, e1]
        exact .inl f2
  have hps : PlainSeq "list" s.heap a ((es.map (·.1)).map Value.ref).toArray := by
    obtain ⟨o, n, h1, h2, h3, h4⟩ := pl
    exact ⟨o, n, h1, h2, h3, h4⟩
  refine call_dict_pairsH (knd := tupleKind (mixKind X.prog X.w)) (ps := ps) (PairArg.list a ((es.map (·.1)).map Value.ref).toArray (fun j => (es.getD j (0, [], 0, .non)).1) prs) (I.ok.hd hc) (show X.A.in1.in1.units < cLine by show X.A.units + 1 + 1 < cLine; omega) ⟨hps, hpi⟩ ⟨by simp [ps, prs], fun i key u hi => ?_⟩ (fun h' hk x hx => ?_) (by simp [prs, lz]; rw [List.length_map] at hz; exact hz) fun h' t' dd hk => ?_
  · have hi : prs[i]? = some (key, u) := hi
    rw [List.getElem?_map] at hi
    cases hq : (es.zip vs)[i]? with
    | none => rw [hq] at hi; cases hi
    | some q =>
      rw [hq] at hi
      cases hi
      exact ⟨q.1.2.1, q.1.2.2.1, by show ((es.zip vs).map _)[i]? = _; rw [List.getElem?_map, hq]; rfl, rfl⟩
  · obtain ⟨q, hq, rfl⟩ := List.mem_map.mp hx
    obtain ⟨j, hj⟩ := List.getElem?_of_mem hq
    obtain ⟨e1, e2⟩ := zat j q hj
    obtain ⟨_, _, f3, _⟩ := hat j _ _ e1 e2
    exact tupleKind_stays.stays (fun b o _ _ hb _ => hk b o (Nat.ne_of_lt (Heap.lt_size hb)) (by simp) hb) f3
  · have hm : (s.heap.objs.size == sysModules) = false := beq_eq_false_iff_ne.mpr (Nat.ne_of_gt I.big)
    have hn := I.hok.fresh (Nat.le_refl s.heap.objs.size)
    have kt0 : Paired (fun (e : Addr × List Key × Addr × V) (u : Value) => RelV e.2.2.2 u ∧ upd H s.heap.objs.size (.dT (mergeT [] es)) e.2.2.1 = some (.tup (e.2.1.map kV))) es vs := Paired.mapP pv fun e u z => ⟨z.1, by rw [upd_ne (ne_of_none z.2.2.2 hn)]; exact z.2.2.2⟩
    have kt := storedT_rel (kvs := []) (xs := []) kt0 .nil
    obtain ⟨o, es', ep, ho, h2, h3, h4, _, h5⟩ := dd
    have hlen : (mergeT [] es).length ≤ sizeLine := by
      have h6 : (storedAllH [] ps).length ≤ 0 + ps.length := storedAllH_length ps []
      rw [Paired.length kt]
      rw [List.length_map] at hz
      have : ps.length = es.length := by simp [ps, lz]
      exact Nat.le_trans h6 (by omega)
    exact ⟨.ref s.heap.objs.size, upd H s.heap.objs.size (.dT (mergeT [] es)), I.laid (t' := t') (fun b o e => hk b o (by simp) e) (Nat.le_refl _) ⟨hlen, hm, _, kt, o, es', ep, ho, h2, h3, h4, h5⟩, rfl, q _ hn⟩
end
end Dt

/-! Dt: dicts of tuples of numbers, own or kept; new data; name.pop(0). -/
namespace Dt
open PySem PySem.Spec PyProof.Rows L2
variable {κ : PySem.W.Frag}
/-- the key that a tuple of numbers is -/
def keyN (l : List Nat) : List Key := l.map fun o : Nat => Sum.inl (o : Int)
theorem keyN_inj : ∀ {l l' : List Nat}, keyN l = keyN l' → l = l'
  | [], [], _ => rfl
  | [], _ :: _, h => by cases h
  | _ :: _, [], h => by cases h
  | a :: l, b :: l', h => by
    unfold keyN at h
    rw [List.map_cons, List.map_cons] at h
    injection h with h1 h2
    have h3 : (a : Int) = (b : Int) := Sum.inl.inj h1
    have h4 : a = b := by omega
    rw [h4, keyN_inj (l := l) (l' := l') h2]
theorem keyN_eq {l l' : List Nat} : keyN l = keyN l' ↔ l = l' := ⟨keyN_inj, fun h => by rw [h]⟩
theorem keyN_D (l : List Nat) : PyData.tuple ((keyN l).map keyD) = nT l := by
  unfold keyN
  rw [List.map_map]
  rfl
def lookT (kvs : List (List Key × PyData)) (k : List Key) : Option PyData := (kvs.find? fun q => decide (q.1 = k)).map (·.2)
theorem PT'.look {S : Hp} {k : List Key} : ∀ {ws : List (List Key × V)} {kvs : List (List Key × PyData)}, PT' κ S ws kvs → (lookT kvs k = none ∧ valV ws k = none) ∨ ∃ x v, lookT kvs k = some x ∧ valV ws k = some v ∧ Rp κ S v x
  | _, _, .nil => .inl ⟨rfl, rfl⟩
  | p :: ws, q :: kvs, .cons h t => by
    by_cases e : q.1 = k
    · refine .inr ⟨q.2, p.2, ?_, valV_pos (h.1.trans e), h.2⟩
      unfold lookT
      rw [List.find?_cons_of_pos (by exact decide_eq_true e)]
      rfl
    · have e1 : lookT (q :: kvs) k = lookT kvs k := by
        unfold lookT
        rw [List.find?_cons_of_neg (by rw [decide_eq_false e]; exact Bool.false_ne_true)]
      rw [e1, valV_neg (fun z => e (h.1.symm.trans z))]
      exact PT'.look t
theorem Rp.keyT {H : Hp} {v : V} {l : List Nat} (h : Rp κ H v (nT l)) : ∃ b, v = .ref b ∧ H b = some (.tup ((keyN l).map kV)) := by
  cases h with
  | @tup a vs ds hp r =>
    refine ⟨a, rfl, ?_⟩
    rw [hp]
    have key : ∀ {l : List Nat} {vs : List V}, RpA κ H vs (l.map nI) → vs = (keyN l).map kV := by
      intro l
      induction l with
      | nil => intro vs r; cases r; rfl
      | cons a l ih =>
        intro vs r
        cases r with
        | cons h t =>
          cases h
          rw [ih t]
          rfl
    rw [key r]
theorem tup_keyT {S : Hp} {b : Addr} {l : List Nat} (h : S b = some (.tup ((keyN l).map kV))) : Rp κ S (.ref b) (nT l) := by
  refine .tup h ?_
  have key : ∀ l : List Nat, RpA κ S ((keyN l).map kV) (l.map nI) := by
    intro l
    induction l with
    | nil => exact .nil
    | cons a l ih => exact .cons (.int _) ih
  exact key l
theorem keyD_inj : ∀ {k k' : List Key}, k.map keyD = k'.map keyD → k = k'
  | [], [], _ => rfl
  | [], _ :: _, h => by cases h
  | _ :: _, [], h => by cases h
  | a :: k, b :: k', h => by
    rw [List.map_cons, List.map_cons] at h
    injection h with h1 h2
    have h3 : a = b := by cases a <;> cases b <;> cases h1 <;> rfl
    rw [h3, keyD_inj h2]
theorem RpT.pt {H : Hp} : ∀ {kvs : List (List Key × PyData)} {ws : List (List Key × V)} {ds : List (PyData × PyData)}, RpT κ H ws ds → ds = dOfT kvs → PT' κ H ws kvs
  | [], _, _, .nil, _ => .nil
  | [], _, _, .cons _ _, e => by cases e
  | _ :: _, _, _, .nil, e => by cases e
  | q :: kvs, _, _, .cons (k := k) h t, e => by
    injection e with e1 e2
    have h1 : PyData.tuple (k.map keyD) = PyData.tuple (q.1.map keyD) := congrArg Prod.fst e1
    have h2 := congrArg Prod.snd e1
    injection h1 with h1
    have hk := keyD_inj h1
    simp only at h2
    subst h2
    exact .cons ⟨hk, h⟩ (RpT.pt t e2)
theorem PT'.rpT {H : Hp} : ∀ {kvs : List (List Key × PyData)} {ws : List (List Key × V)}, PT' κ H ws kvs → RpT κ H ws (dOfT kvs)
  | [], _, .nil => .nil
  | q :: kvs, (k, v) :: ws, .cons h t => by
    have h1 : k = q.1 := h.1
    subst h1
    exact .cons h.2 (PT'.rpT t)
theorem Rp.dictT {H : Hp} {v : V} {kvs : List (List Key × PyData)} (h : Rp κ H v (.dict (dOfT kvs))) : ∃ a ws, v = .ref a ∧ Rd H a (.dT ws) ∧ PT' κ H ws kvs := by
  have key : ∀ {x : PyData}, Rp κ H v x → x = .dict (dOfT kvs) → ∃ a ws, v = .ref a ∧ Rd H a (.dT ws) ∧ PT' κ H ws kvs := by
    intro x h e
    cases h with
    | dT hr r => injection e with e; exact ⟨_, _, rfl, hr, r.pt e⟩
    | scr _ _ => injection e with e; cases kvs <;> cases e
    | own _ _ => injection e with e; cases kvs <;> cases e
    | non => cases e
    | bl _ => cases e
    | int _ => cases e
    | str _ => cases e
    | lst _ _ => cases e
    | tup _ _ => cases e
  exact key h rfl
theorem Ex.rd {H H' : Hp} {a : Addr} {u : HO} (e : Ex H H') (h : Rd H a u) : Rd H' a u := e.le.rd _ _ h
/-! ### kept, or new -/
def rV (nw : Bool) (B : Base κ) (ρ : Rho) (x : PyData) : TE := fun σ H Q => ∃ S, Rel B ρ σ H S ∧ ∀ v H2 S2, Step S H S2 H2 → Rp κ (vS nw H S2) v x → Q v H2
def DV (X : Cx) (nw : Bool) (e : Expr) (ρ : Rho) (x : PyData) : Prop := ∀ B : Base X.K, PE X e (rV nw B ρ x)
section
variable {X : Cx} {W : WX} {e e2 a b c f : Expr} {es : List Expr} {ρ ρ' : Rho} {x y z : PyData} {xs ys : List PyData} {pos p2 p : Pos} {i j m : Int} {n : Str} {k nw : Bool} {st : Stmt} {rest body orelse : List Stmt} {K : En} {kvs : List (List Key × PyData)} {l : List Nat}
theorem DK.toV (h : DK X e ρ x) : DV X false e ρ x := h
theorem DV.toK (h : DV X nw e ρ x) : DK X e ρ x := fun B => (h B).imp fun σ H Q ⟨S, R, q⟩ => ⟨S, R, fun v H2 S2 t r => q v H2 S2 t (r.mono vS_le)⟩
theorem DV.cast (h : DV X nw e ρ x) (q : x = y) : DV X nw e ρ y := q ▸ h
/-- a new list of what needs no heap is new data -/
theorem DF.toN (h : DF X e ρ xs) (hs : ∀ x ∈ xs, scalD x = true) : DV X true e ρ (.list xs) := fun B => (h B).imp fun σ H Q ⟨S, R, q⟩ => ⟨S, R, fun p vs H2 S2 t hp hs2 hv r =>
  q (.ref p) H2 (upd S2 p (.lst vs)) (t.take hp hs2 hv) (.lst (nwP_mk hp upd_same) (r.scal hs))⟩
theorem DV.toF (h : DV X true e ρ (.list xs)) (hs : ∀ x ∈ xs, scalD x = true) : DF X e ρ xs := fun B => (h B).imp fun σ H Q ⟨S, R, q⟩ => ⟨S, R, fun v H2 S2 t r => by
  cases r with
  | lst hp r =>
    obtain ⟨h1, h2⟩ := nwP_some hp
    exact q _ _ H2 S (.heap R.sub t.h) h1 (R.sub.back h1) (t.sub _ _ h2) (r.scal hs)⟩
theorem DK.toM (h : DK X e ρ (.dict (dOfT kvs))) : DM X e ρ kvs := fun B => (h B).imp fun σ H Q ⟨S, R, q⟩ => ⟨S, R, fun v H2 S2 t r => by
  obtain ⟨a, ws, rfl, hr, pt⟩ := r.dictT
  exact q a ws H2 S2 t (t.sub.rd hr) pt⟩
/-- d[t] -/
theorem dk_ixD {r : Nat} (hr : Room r X.A) (ha : DM X a ρ kvs) (hb : DE X b ρ (nT l)) (h : lookT kvs (keyN l) = some x) (hs : NoSl b := by intro _ _; rfl) : DK X (.Subscript a b pos) ρ x := fun B =>
  (pe_dget (hu_of hr) (ha B) (hb B) hs).imp fun σ H Q ⟨S, R, q⟩ => ⟨S, R, fun p ws H1 S1 t1 hrd pt => ⟨S1, R.step t1, fun u H2 e2 r2 => by
    obtain ⟨b, rfl, hb⟩ := r2.keyT
    rcases pt.look (k := keyN l) with ⟨z, _⟩ | ⟨x', v, h1, h2, h3⟩
    · rw [h] at z; cases z
    · rw [h] at h1; cases h1
      exact ⟨p, v, rfl, .inr ⟨ws, keyN l, b, e2.rd hrd, rfl, hb, h2.symm⟩, q v H2 S1 (t1.trans (.heap t1.sub e2)) h3⟩⟩⟩
theorem look_some {S : Hp} {ws : List (List Key × V)} {k : List Key} (pt : PT' κ S ws kvs) : (valV ws k).isSome = (lookT kvs k).isSome := by
  rcases pt.look (k := k) with ⟨z, w⟩ | ⟨x', v, h1, h2, h3⟩
  · rw [z, w]; rfl
  · rw [h1, h2]; rfl
theorem db_inM {r : Nat} (hr : Room r X.A) (ha : DE X a ρ (nT l)) (hd : DM X b ρ kvs) (hm : behindInMarks .In b = false := by with_unfolding_all rfl) : DB X (.Compare a [.In] [b] pos) ρ (lookT kvs (keyN l)).isSome := fun B =>
  (pt_cmp (pc_din (hu_of hr) (ha B) (hd B)) hm).imp fun σ H Q ⟨S, R, q⟩ => ⟨S, R, fun v H1 e1 r1 => ⟨S, R.heap e1, fun p ws H2 S2 t2 hrd pt => by
    obtain ⟨b, rfl, hb⟩ := r1.keyT
    refine ⟨p, valV ws (keyN l), rfl, .inr ⟨ws, keyN l, b, hrd, rfl, t2.h _ _ hb, rfl⟩, _, rfl, ?_⟩
    rw [look_some pt]
    exact q H2 (e1.trans t2.h)⟩⟩
theorem db_ninM {r : Nat} (hr : Room r X.A) (ha : DE X a ρ (nT l)) (hd : DM X b ρ kvs) (hm : behindInMarks .NotIn b = false := by with_unfolding_all rfl) : DB X (.Compare a [.NotIn] [b] pos) ρ (!(lookT kvs (keyN l)).isSome) := fun B =>
  (pt_cmp (pc_dnotin (hu_of hr) (ha B) (hd B)) hm).imp fun σ H Q ⟨S, R, q⟩ => ⟨S, R, fun v H1 e1 r1 => ⟨S, R.heap e1, fun p ws H2 S2 t2 hrd pt => by
    obtain ⟨b, rfl, hb⟩ := r1.keyT
    refine ⟨p, valV ws (keyN l), rfl, .inr ⟨ws, keyN l, b, hrd, rfl, t2.h _ _ hb, rfl⟩, _, rfl, ?_⟩
    rw [look_some pt]
    exact q H2 (e1.trans t2.h)⟩⟩
/-- d.get(t, x) -/
theorem dv_get {ap cp : Pos} {r : Nat} (hr : Room r X.A) (hd : DV X nw a ρ (.dict (dOfT kvs))) (hk : DE X e ρ (nT l)) (hf : DE X f ρ y) (h : lookT kvs (keyN l) = some x) (m : M2 X a "get" ap e f cp := by exact ⟨rfl, rfl, rfl, rfl⟩) : DV X nw (.Call (.Attribute a "get" ap) [e, f] [] cp) ρ x := fun B =>
  (pe_dget2 (hu_of hr) (hd B) (hk B) (hf B) m).imp fun σ H Q ⟨S, R, q⟩ => ⟨S, R, fun v H1 S1 t1 r1 => by
    obtain ⟨a, ws, rfl, hrd, pt⟩ := r1.dictT
    have hrd1 : Rd H1 a (.dT ws) := t1.sub.rd (vS_le.rd hrd)
    refine ⟨a, rfl, .inr ⟨ws, hrd1⟩, S1, R.step t1, fun u H2 e2 r2 => ⟨S1, (R.step t1).heap e2, fun w H3 e3 _ => ?_⟩⟩
    obtain ⟨b, rfl, hb⟩ := r2.keyT
    rcases pt.look (k := keyN l) with ⟨z, _⟩ | ⟨x', v, h1, h2, h3⟩
    · rw [h] at z; cases z
    · rw [h] at h1; cases h1
      exact ⟨some v, .inr ⟨ws, keyN l, b, e3.rd (e2.rd hrd1), rfl, e3 _ _ hb, h2.symm⟩, q v H3 S1 (t1.trans (.heap t1.sub (e2.trans e3))) h3⟩⟩
theorem dk_getN {ap cp : Pos} {r : Nat} (hr : Room r X.A) (hd : DV X nw a ρ (.dict (dOfT kvs))) (hk : DE X e ρ (nT l)) (hf : DE X f ρ y) (hy : scalD y = true) (h : lookT kvs (keyN l) = none) (m : M2 X a "get" ap e f cp := by exact ⟨rfl, rfl, rfl, rfl⟩) : DK X (.Call (.Attribute a "get" ap) [e, f] [] cp) ρ y := fun B =>
  (pe_dget2 (hu_of hr) (hd B) (hk B) (hf B) m).imp fun σ H Q ⟨S, R, q⟩ => ⟨S, R, fun v H1 S1 t1 r1 => by
    obtain ⟨a, ws, rfl, hrd, pt⟩ := r1.dictT
    have hrd1 : Rd H1 a (.dT ws) := t1.sub.rd (vS_le.rd hrd)
    refine ⟨a, rfl, .inr ⟨ws, hrd1⟩, S1, R.step t1, fun u H2 e2 r2 => ⟨S1, (R.step t1).heap e2, fun w H3 e3 rw3 => ?_⟩⟩
    obtain ⟨b, rfl, hb⟩ := r2.keyT
    rcases pt.look (k := keyN l) with ⟨_, z⟩ | ⟨x', v, h1, h2, h3⟩
    · exact ⟨none, .inr ⟨ws, keyN l, b, e3.rd (e2.rd hrd1), rfl, e3 _ _ hb, z.symm⟩, q w H3 S1 (t1.trans (.heap t1.sub (e2.trans e3))) (rw3.scal hy)⟩
    · rw [h] at h1; cases h1⟩
variable {φ : List PyData → Rs → Prop} {M : Nat}
theorem cn (d : Def X n M φ) (ha : DAk X (e :: es) ρ xs) (h : φ xs (.n x)) (hm : xs.length = M := by rfl) (s : Arg1 X e es pos := by exact a1) : DV X true (.Call (.Name n p) (e :: es) [] pos) ρ x := fun B => by
  obtain ⟨f, fd, ps, k, F, hr, hg, hk, hb⟩ := d.ok
  refine (pe_call F hr d.gl hg hk hb .nil passL (ha B) d.nd s.st s.pl).imp fun σ H Q ⟨S, R, q⟩ => ⟨S, R, fun vs H1 S1 t1 r1 => ?_⟩
  show spD X.K φ M (vs ++ []) H1 Q E0
  rw [List.append_nil]
  refine ⟨S1, xs, _, t1.sub, r1, h, hm, fun v H2 ⟨S', t2, r2⟩ => q v H2 S' (t1.trans t2) (r2.mono (nwP_base t1.h)), fun C hC => by cases hC⟩
/-! ### own dicts -/
/-- name = {} -/
theorem newT (i : Nat) (nw : Bool) {pn : Pos} (h : K.nx (ρ.set i (some (.t nw [])))) (hN : X.N.Nodup := by assumption) (hi : X.N[i]? = some n := by rfl) (hx : L2.Loc X.env.scope n := by first | exact Or.inl rfl | exact Or.inr rfl) (hf : X.fn n = true ∨ X.env.scope.names.lookup n = some .local := by first | exact .inl rfl | exact .inr rfl) (hs : swapsWith (.Dict [] [] p2) (some (.Name n pn)) pos.line X.env = pure false := by rfl) :
    DS X W (.Assign [.Name n pn] (.Dict [] [] p2) pos) ρ K := fun B =>
  (ps_set hN hi hx pe_dnewT hs hf).imp fun D σ H ⟨⟨S, R⟩, A⟩ => fun p hp => A.nx _ _ _ S (R.setO (Ex.new hp) (R.heap (Ex.new hp)) i (s := .t nw []) (fun q hq => by cases hq; exact hp) ⟨p, [], rfl, R.exH.back hp, R.sub.back hp, upd_same, .nil⟩) h
theorem vS_base {B : Base κ} {H S2 : Hp} (e : Ex B.H H) : Ex (vS nw H S2) (vS nw B.H S2) := by
  cases nw
  · exact Ex.refl _
  · exact nwP_base e
/-- name = {k: v} -/
theorem setD1 (i : Nat) (nw : Bool) {pn : Pos} {r : Nat} (hr : Room r X.A) (hk : DE X a ρ (nT l)) (hv : DV X nw b ρ x) (h : K.nx (ρ.set i (some (.t nw [(keyN l, x)])))) (hN : X.N.Nodup := by assumption) (hi : X.N[i]? = some n := by rfl) (hx : L2.Loc X.env.scope n := by first | exact Or.inl rfl | exact Or.inr rfl) (hf : X.fn n = true ∨ X.env.scope.names.lookup n = some .local := by first | exact .inl rfl | exact .inr rfl) (hs : swapsWith (.Dict [some a] [b] p2) (some (.Name n pn)) pos.line X.env = pure false := by rfl) :
    DS X W (.Assign [.Name n pn] (.Dict [some a] [b] p2) pos) ρ K := fun B =>
  (ps_set hN hi hx (pe_disp1T (hr.units0) (hk B) (hv B)) hs hf).imp fun D σ H ⟨⟨S, R⟩, A⟩ => fun p hp => by
    have hpS : S p = none := R.sub.back hp
    refine ⟨S, R.heap (Ex.new hp), fun u H1 e1 r1 => ⟨S, R.heap ((Ex.new hp).trans e1), fun w H2 S2 t2 r2 => ?_⟩⟩
    obtain ⟨kb, rfl, hkb⟩ := r1.keyT
    have e2 : Ex H H2 := (Ex.new hp).trans (e1.trans t2.h)
    have hp2 : H2 p = some (.dT []) := t2.h _ _ (e1 _ _ upd_same)
    have hp1 : H1 p = some (.dT []) := e1 _ _ upd_same
    have hs2 : S2 p = none := by
      cases q : S2 p with
      | none => rfl
      | some o => rcases t2.nw p o q hpS with z | ⟨_, z⟩ <;> rw [hp1] at z <;> cases z
    refine ⟨hp2, kb, keyN l, w, rfl, t2.h _ _ hkb, ?_⟩
    have eH : Ex H (upd H2 p (.dT [(keyN l, w)])) := e2.mut hp
    have R' : Rel B ρ σ (upd H2 p (.dT [(keyN l, w)])) S2 := R.grow eH t2.s (t2.sub.mut hs2) fun q o h1 h2 => NT.back ((Ex.new hp).trans e1) (t2.nw q o h1 h2)
    refine A.nx _ _ _ S2 (R.setO eH R' i (s := .t nw [(keyN l, x)]) (fun q hq => by cases hq; exact hp) ⟨p, _, rfl, R.exH.back hp, hs2, upd_same, .cons ⟨rfl, ?_⟩ .nil⟩) h
    exact r2.mono (vS_base (R.exH.trans ((Ex.new hp).trans e1)))
/-- name[t] = v -/
theorem putT (i : Nat) {pn sp : Pos} {r : Nat} (hr : Room r X.A) (he : DV X nw e ρ x) (ha : DE X a ρ (nT l)) (hz : kvs.length < 1000000) (h : K.nx (ρ.set i (some (.t nw (putD kvs (keyN l) x))))) (hi : ρ[i]? = some (some (.t nw kvs)) := by rfl) (hN : X.N[i]? = some n := by rfl) (hv : Vis X.env.scope n := by first | exact Or.inl rfl | exact Or.inr (Or.inl rfl) | exact Or.inr (Or.inr rfl)) (hd : (n == ("__debug__" : Str)) = false := by decide) (hcd : (n == ("__classdict__" : Str)) = false := by decide)
    (hs : swapsWith e (some (.Subscript (.Name n pn) a sp)) pos.line X.env = pure false := by rfl) : DS X W (.Assign [.Subscript (.Name n pn) a sp] e pos) ρ K := fun B =>
  (ps_dput (hu_of hr) (pe_var hN hv hd hcd) (ha B) (he B) hs).imp fun D σ H ⟨⟨S, R⟩, A⟩ => ⟨S, R, fun v H1 S1 t1 r1 => by
    have R1 := R.step t1
    obtain ⟨v0, g1, p, ws, rfl, g2, g3, g4, g5⟩ := R1.sl i _ hi
    refine ⟨_, g1, S1, R1, fun u H2 e2 r2 => ?_⟩
    have R2 := R1.heap e2
    obtain ⟨kb, rfl, hkb⟩ := r2.keyT
    refine ⟨p, _, rfl, .t (e2 _ _ g4) hkb (by rw [g5.len, sizeLine_eq]; omega), ?_⟩
    exact A.nx _ _ _ S1 (R2.mutO hi g1 rfl (s' := .t nw (putD kvs (keyN l) x)) (fun q hq => .inl hq) ⟨p, _, rfl, g2, g3, upd_same, g5.put (r1.mono (vS_base R.exH))⟩) h⟩
/-- an own dict by its name -/
theorem vm (i : Nat) (hN : X.N[i]? = some n := by rfl) (hv : Vis X.env.scope n := by first | exact Or.inl rfl | exact Or.inr (Or.inl rfl) | exact Or.inr (Or.inr rfl)) (hd : (n == ("__debug__" : Str)) = false := by decide) (hcd : (n == ("__classdict__" : Str)) = false := by decide)
    (h : ρ[i]? = some (some (.t nw kvs)) := by rfl) : DM X (.Name n pos) ρ kvs := dm_var i hN hv hd hcd h
/-- return of an own dict of new things -/
theorem retTn (i : Nat) {pn : Pos} (h : K.rt (.n (.dict (dOfT kvs)))) (hi : ρ[i]? = some (some (.t true kvs)) := by rfl) (hN : X.N[i]? = some n := by rfl) (hv : Vis X.env.scope n := by first | exact Or.inl rfl | exact Or.inr (Or.inl rfl) | exact Or.inr (Or.inr rfl)) (hd : (n == ("__debug__" : Str)) = false := by decide) (hcd : (n == ("__classdict__" : Str)) = false := by decide) : DS X W (.Return (some (.Name n pn)) pos) ρ K := fun B =>
  (ps_ret (pe_var hN hv hd hcd)).imp fun D σ H ⟨⟨S, R⟩, A⟩ => by
    obtain ⟨v, h1, p, ws, rfl, h2, h3, h4, h5⟩ := R.sl i _ hi
    have eS : Ex S (upd S p (.dT ws)) := Ex.new h3
    refine ⟨_, h1, A.rt (.n (.dict (dOfT kvs))) _ H ⟨upd S p (.dT ws), ⟨R.exH, R.exS.trans eS, fun a u z => ?_, fun a u z z' => ?_⟩, .dT (.inl (nwP_mk h2 upd_same)) (h5.mono (nwP_mono eS)).rpT⟩ h⟩
    · by_cases ha : a = p
      · subst ha; rw [upd_same] at z; cases z; exact h4
      · rw [upd_ne ha] at z; exact R.sub _ _ z
    · by_cases ha : a = p
      · subst ha; exact .inl h2
      · rw [upd_ne ha] at z; exact R.nw _ _ z z'
/-- list(d) -/
theorem listD (hd : DM X e ρ (kvs)) (hk : ∀ q ∈ kvs, ∃ l, q.1 = keyN l) (mn : X.mg n = none) (hc : X.calm = true := by rfl) (g : X.mg n = none → Blt X n (.type "list") := by exact fun h => blt h) (s : Arg1 X e [] pos := by exact a1) : DF X (.Call (.Name n p) [e] [] pos) ρ (kvs.map fun q => .tuple (q.1.map keyD)) := fun B =>
  (pe_callTy (call_list_dT hc) (g mn).gl (g mn).mg (g mn).bt (pa_cons (hd B) pa_nil s.st) (g mn).nn (g mn).nd s.st s.pl).imp fun σ H Q ⟨S, R, q⟩ => ⟨S, R, fun a ws H1 S1 t1 hrd pt => by
    refine ⟨a, ws, rfl, hrd, fun p bs hp hkeys => ?_⟩
    have hpS : S1 p = none := t1.sub.back hp
    let S2 : Hp := fun b => match S1 b with
      | some o => some o
      | none => if b ∈ bs then H1 b else none
    have e12 : Ex S1 S2 := fun b o h => by show (match S1 b with | some o => some o | none => _) = _; rw [h]
    have s2 : ∀ b o, S2 b = some o → H1 b = some o := fun b o h => by
      have h : (match S1 b with | some o => some o | none => if b ∈ bs then H1 b else none) = some o := h
      cases q : S1 b with
      | some u => rw [q] at h; cases h; exact t1.sub _ _ q
      | none =>
        rw [q] at h
        by_cases hm : b ∈ bs
        · simpa [hm] using h
        · simp [hm] at h
    have tupB : ∀ b ∈ bs, ∃ k : List Key, H1 b = some (.tup (k.map kV)) := by
      clear hp hpS
      have key : ∀ {ws : List (List Key × V)} {bs : List Addr}, IsKeys H1 ws bs → ∀ b ∈ bs, ∃ k : List Key, H1 b = some (.tup (k.map kV)) := by
        intro ws bs hk
        unfold IsKeys at hk
        induction hk with
        | nil => intro b hb; cases hb
        | cons h t ih =>
          intro b hb
          rcases List.mem_cons.mp hb with rfl | hb
          · exact ⟨_, h⟩
          · exact ih b hb
      exact key hkeys
    have st2 : Step S H S2 H1 := ⟨t1.h, t1.s.trans e12, s2, fun b o h h' => by
      cases q : S1 b with
      | some u => exact t1.nw b u q h'
      | none =>
        have h : (match S1 b with | some o => some o | none => if b ∈ bs then H1 b else none) = some o := h
        rw [q] at h
        by_cases hm : b ∈ bs
        · obtain ⟨k, hk2⟩ := tupB b hm
          exact NT.back t1.h (.inr ⟨_, hk2⟩)
        · simp [hm] at h⟩
    have at2 : ∀ b ∈ bs, ∀ o, H1 b = some o → S2 b = some o := fun b hb o h => by
      show (match S1 b with | some o => some o | none => if b ∈ bs then H1 b else none) = some o
      cases q : S1 b with
      | some u => exact (t1.sub _ _ q).symm.trans h
      | none => simp [hb, h]
    have items : RpA X.K S2 (bs.map V.ref) (kvs.map fun q => .tuple (q.1.map keyD)) := by
      have key : ∀ {ws : List (List Key × V)} {kvs : List (List Key × PyData)} {cs : List Addr}, PT' X.K S1 ws kvs → (∀ q ∈ kvs, ∃ l, q.1 = keyN l) → IsKeys H1 ws cs → (∀ b ∈ cs, b ∈ bs) → RpA X.K S2 (cs.map V.ref) (kvs.map fun q => .tuple (q.1.map keyD)) := by
        intro ws kvs cs pt
        induction pt generalizing cs with
        | nil => intro _ hk _; cases hk; exact .nil
        | @cons pw pq _ _ h t ih =>
          intro hk hks hm
          cases hks with
          | @cons _ b _ _ h2 t2 =>
            obtain ⟨l, hl⟩ := hk _ List.mem_cons_self
            refine .cons ?_ (ih (fun q hq => hk q (List.mem_cons_of_mem _ hq)) t2 fun b hb => hm b (List.mem_cons_of_mem _ hb))
            have h3 : H1 b = some (.tup ((keyN l).map kV)) := by
              have := h.1
              rw [← hl, ← this]
              exact h2
            show Rp X.K S2 (.ref b) (.tuple (pq.1.map keyD))
            rw [hl, keyN_D]
            exact tup_keyT (at2 b (hm b List.mem_cons_self) _ h3)
      exact key pt hk hkeys fun b hb => hb
    have hp2 : S2 p = none := by
      cases q : S2 p with
      | none => rfl
      | some o => rw [s2 p o q] at hp; cases hp
    exact q p _ _ S2 (st2.trans (.heap st2.sub (Ex.new hp))) (t1.h.back hp) hp2 upd_same items⟩
/-- name = own.pop(0) -/
theorem popL0 (i j : Nat) {m0 : Str} {pn po ap cp p3 : Pos} {kk : Nat} (h : K.nx ((ρ.set j (some (.l xs))).set i (some (.d x)))) (hij : j ≠ i) (hj : ρ[j]? = some (some (.l (x :: xs))) := by rfl) (hNj : X.N[j]? = some m0 := by rfl) (hv : Vis X.env.scope m0 := by first | exact Or.inl rfl | exact Or.inr (Or.inl rfl) | exact Or.inr (Or.inr rfl)) (hd : (m0 == ("__debug__" : Str)) = false := by decide) (hcd : (m0 == ("__classdict__" : Str)) = false := by decide)
    (hbase : attributeBase (.Name m0 po) "pop" X.env (eval (.Name m0 po) X.env) = eval (.Name m0 po) X.env := by rfl)
    (hfew : ((backTo cp (starEach (.Constant (.int 0) kk p3 :: []) X.env)).all (fun x => !x.1) && (backToKw cp (keywordEach [] X.env)).all (fun x => x.1.isSome)
      && decide ((Expr.Constant (.int 0) kk p3 :: []).length + ([] : List Keyword).length + (if ([] : List Keyword).isEmpty then 0 else 1) < 30)) = true := by rfl)
    (hline : (ap.endLine == cp.line) = true := by rfl) (g : Arg1 X (.Constant (.int 0) kk p3) [] cp := by exact a1)
    (hN : X.N.Nodup := by assumption) (hi : X.N[i]? = some n := by rfl) (hx : L2.Loc X.env.scope n := by first | exact Or.inl rfl | exact Or.inr rfl) (hf : X.fn n = true ∨ X.env.scope.names.lookup n = some .local := by first | exact .inl rfl | exact .inr rfl)
    (hs : swapsWith (.Call (.Attribute (.Name m0 po) "pop" ap) [.Constant (.int 0) kk p3] [] cp) (some (.Name n pn)) pos.line X.env = pure false := by rfl) :
    DS X W (.Assign [.Name n pn] (.Call (.Attribute (.Name m0 po) "pop" ap) [.Constant (.int 0) kk p3] [] cp) pos) ρ K := fun B =>
  (ps_set hN hi hx (pe_bm PySem.F.plainAttrs_list PySem.F.slot_list_pop PySem.F.type_list_pop mt_popAt (pe_var hNj hv hd hcd) (pa_cons pe_int pa_nil g.st) hbase hfew hline g.st g.pl) hs hf).imp fun D σ H ⟨⟨S, R⟩, A⟩ => by
    obtain ⟨v, h1, p, vs, rfl, h2, h3, h4, h5⟩ := R.sl j _ hj
    cases h5 with
    | @cons w ws _ _ r1 r2 =>
      refine ⟨_, h1, .inl ⟨rfl, _, .of h4⟩, p, w :: ws, 0, 0, w, rfl, rfl, h4, by decide, by decide, ?_, rfl, ?_⟩
      · unfold seqIndex?
        simp
      · have R1 := R.mutO hj h1 rfl (s' := .l xs) (o := .lst ws) (fun q hq => .inl hq) ⟨p, ws, rfl, h2, h3, upd_same, r2⟩
        exact A.nx _ _ _ S (R1.setD i r1) h
end
end Dt

/-! Dt: own things that go over into what is kept; dict(list of pairs); an own pair of own lists; sorted(set(list of pairs)). -/
namespace Dt
open PySem PySem.Spec PyProof.Rows L2
variable {κ : PySem.W.Frag}
open Classical in
theorem Rel.absorb {B : Base κ} {ρ : Rho} {σ : L2.St} {H S : Hp} (R : Rel B ρ σ H S) {i : Nat} {s : Sl} {v0 : V} (hi : ρ[i]? = some (some s)) (hv : σ[i]? = some (some v0)) (reg : Addr → Prop) (x : PyData)
    (hreg : ∀ b, reg b → ∃ o, H b = some o ∧ NT B.H b ∧ ((∃ xs, o = .tup xs) ∨ s.has v0 b))
    (hx : ∀ S' : Hp, Ex S S' → (∀ b, reg b → S' b = H b) → Rp κ S' v0 x) : ∃ S', Ex S S' ∧ Rel B (ρ.set i (some (.d x))) σ H S' := by
  have hiρ : i < ρ.length := (List.getElem?_eq_some_iff.mp hi).1
  let S' : Hp := fun b => if reg b then H b else S b
  have s1 : ∀ b, reg b → S' b = H b := fun b h => if_pos h
  have s2 : ∀ b, ¬ reg b → S' b = S b := fun b h => if_neg h
  have eS : Ex S S' := fun b o h => by
    by_cases hb : reg b
    · rw [s1 b hb]; exact R.sub _ _ h
    · rw [s2 b hb]; exact h
  have sub : Ex S' H := fun b o h => by
    by_cases hb : reg b
    · rw [s1 b hb] at h; exact h
    · rw [s2 b hb] at h; exact R.sub _ _ h
  refine ⟨S', eS, R.exH, R.exS.trans eS, sub, fun b o h h' => ?_, by rw [List.length_set]; exact R.len, fun j t e => ?_, fun a1 b1 t1 t2 v w q h1 h2 h3 h4 h5 h6 => ?_⟩
  · by_cases hb : reg b
    · obtain ⟨_, _, h2, _⟩ := hreg b hb
      exact h2
    · rw [s2 b hb] at h; exact R.nw _ _ h h'
  · by_cases hj : i = j
    · subst hj
      rw [List.getElem?_set_self hiρ] at e
      cases e
      exact ⟨_, hv, hx S' eS s1⟩
    · rw [List.getElem?_set_ne hj] at e
      obtain ⟨v, g1, g2⟩ := R.sl j t e
      refine ⟨v, g1, g2.monoS eS fun p hp => ?_⟩
      obtain ⟨o, m1, m2, m3, m4⟩ := g2.ref hp
      rw [s2 p, m2]
      intro hb
      obtain ⟨o', n1, _, n3⟩ := hreg p hb
      rcases n3 with ⟨xs, rfl⟩ | n3
      · rw [m3] at n1; cases n1
        exact m4 _ rfl
      · exact hj (R.sep i j _ t _ v _ hi e hv g1 n3 hp)
  · have f : ∀ {a : Nat} {s1 : Sl} {u : V}, (ρ.set i (some (.d x)))[a]? = some (some s1) → s1.has u q → ρ[a]? = some (some s1) := fun {a s1 u} h ho1 => by
      by_cases hj : i = a
      · subst hj
        rw [List.getElem?_set_self hiρ] at h
        cases h
        exact ho1.elim
      · rw [List.getElem?_set_ne hj] at h; exact h
    exact R.sep a1 b1 t1 t2 v w q (f h1 h5) (f h2 h6) h3 h4 h5 h6
theorem Rel.freezeT {B : Base κ} {ρ : Rho} {σ : L2.St} {H S : Hp} (R : Rel B ρ σ H S) {i : Nat} {nw : Bool} {kvs : List (List Key × PyData)} (hi : ρ[i]? = some (some (.t nw kvs))) : ∃ S', Ex S S' ∧ Rel B (ρ.set i (some (.d (.dict (dOfT kvs))))) σ H S' := by
  obtain ⟨v, e1, p, ws, rfl, e2, e3, e4, e5⟩ := R.sl i _ hi
  refine R.absorb hi e1 (fun b => b = p) _ (fun b hb => ?_) fun S' eS hr => ?_
  · subst hb
    exact ⟨_, e4, .inl e2, .inr rfl⟩
  · exact .dT (.inl ((hr p rfl).trans e4)) ((e5.mono vS_le).mono eS).rpT
def pairD (x : List PyData × List PyData) : PyData := .tuple [.list x.1, .list x.2]
theorem Rel.freezeP2 {B : Base κ} {ρ : Rho} {σ : L2.St} {H S : Hp} (R : Rel B ρ σ H S) {i : Nat} {e : Addr × Addr × Addr} {x : List PyData × List PyData} (hi : ρ[i]? = some (some (.p2 e x))) : ∃ S', Ex S S' ∧ Rel B (ρ.set i (some (.d (pairD x)))) σ H S' := by
  obtain ⟨v, e1, rfl, ⟨r1, ⟨v2, m1, m2, m3, m4⟩, ⟨v3, n1, n2, n3, n4⟩⟩, hne⟩ := R.sl i _ hi
  refine R.absorb hi e1 (fun b => b = e.1 ∨ b = e.2.1 ∨ b = e.2.2) _ (fun b hb => ?_) fun S' eS hr => ?_
  · rcases hb with rfl | rfl | rfl
    · exact ⟨_, r1, NT.back R.exH (.inr ⟨_, r1⟩), .inl ⟨_, rfl⟩⟩
    · exact ⟨_, m3, .inl m1, .inr (.inl rfl)⟩
    · exact ⟨_, n3, .inl n1, .inr (.inr rfl)⟩
  · exact .tup ((hr _ (.inl rfl)).trans r1) (.cons (.lst ((hr _ (.inr (.inl rfl))).trans m3) (m4.mono eS)) (.cons (.lst ((hr _ (.inr (.inr rfl))).trans n3) (n4.mono eS)) .nil))
section
variable {X : Cx} {W : WX} {e e1 e2 a b c f : Expr} {es : List Expr} {ρ ρ' : Rho} {x y z : PyData} {xs ys : List PyData} {pos p2 p : Pos} {i j m : Int} {n : Str} {k nw : Bool} {st : Stmt} {rest body orelse : List Stmt} {K : En} {kvs : List (List Key × PyData)} {l : List Nat} {ep : Addr × Addr × Addr} {xp : List PyData × List PyData}
theorem dss_freezeT (i : Nat) (hi : ρ[i]? = some (some (.t nw kvs))) (h : DSs X W body (ρ.set i (some (.d (.dict (dOfT kvs))))) K) : DSs X W body ρ K := fun B =>
  (h B).imp fun D σ H ⟨⟨S, R⟩, A⟩ => by
    obtain ⟨S', _, R'⟩ := R.freezeT hi
    exact ⟨⟨S', R'⟩, A⟩
/-- the pair, read as data -/
theorem de_pair (i : Nat) (h : DE X e (ρ.set i (some (.d (pairD xp)))) x) (hi : ρ[i]? = some (some (.p2 ep xp)) := by rfl) : DE X e ρ x := fun B => (h B).imp fun σ H Q ⟨S, R, q⟩ =>
  let ⟨S', _, R'⟩ := R.freezeP2 hi
  ⟨S', R', q⟩
theorem db_pair (i : Nat) (h : DB X e (ρ.set i (some (.d (pairD xp)))) k) (hi : ρ[i]? = some (some (.p2 ep xp)) := by rfl) : DB X e ρ k := fun B => (h B).imp fun σ H Q ⟨S, R, q⟩ =>
  let ⟨S', _, R'⟩ := R.freezeP2 hi
  ⟨S', R', q⟩
/-! ### dict(list of pairs) -/
theorem RpA.one1 {H : Hp} {vs : List V} {x : PyData} (h : RpA κ H vs [x]) : ∃ v, vs = [v] ∧ Rp κ H v x := by
  cases h with
  | cons h q => cases q; exact ⟨_, rfl, h⟩
theorem ents_of {S : Hp} : ∀ {L : List (List Nat × PyData)} {vs : List V}, RpA κ S vs (L.map fun q => .tuple [nT q.1, q.2]) → ∃ es : List (Addr × List Key × Addr × V), vs = es.map (fun e => V.ref e.1) ∧ (∀ e ∈ es, EntOk S e) ∧ Paired (fun e q => e.2.1 = keyN q.1 ∧ Rp κ S e.2.2.2 q.2) es L
  | [], _, .nil => ⟨[], rfl, (fun e he => by cases he), .nil⟩
  | q :: L, _, .cons h t => by
    obtain ⟨es, rfl, h2, h3⟩ := ents_of t
    cases h with
    | @tup a us ds hp r =>
      cases r with
      | cons r1 r2 =>
        obtain ⟨w, rfl, r3⟩ := r2.one1
        obtain ⟨b, rfl, hb⟩ := r1.keyT
        refine ⟨(a, keyN q.1, b, w) :: es, rfl, fun e he => ?_, .cons ⟨rfl, r3⟩ h3⟩
        rcases List.mem_cons.mp he with rfl | he
        · exact ⟨hp, hb⟩
        · exact h2 e he
theorem ents_keys {S : Hp} : ∀ {es : List (Addr × List Key × Addr × V)} {L : List (List Nat × PyData)}, Paired (fun e q => e.2.1 = keyN q.1 ∧ Rp κ S e.2.2.2 q.2) es L → es.map (fun e => e.2.1) = L.map fun q => keyN q.1
  | _, _, .nil => rfl
  | _, _, .cons h t => by rw [List.map_cons, List.map_cons, h.1, ents_keys t]
theorem ents_pt {S : Hp} : ∀ {es : List (Addr × List Key × Addr × V)} {L : List (List Nat × PyData)}, Paired (fun e q => e.2.1 = keyN q.1 ∧ Rp κ S e.2.2.2 q.2) es L → PT' κ S (es.map fun e => (e.2.1, e.2.2.2)) (L.map fun q => (keyN q.1, q.2))
  | _, _, .nil => .nil
  | _, _, .cons h t => .cons ⟨h.1, h.2⟩ (ents_pt t)
theorem merge_new : ∀ (es : List (Addr × List Key × Addr × V)) (acc : List (List Key × V)), (acc.map (·.1) ++ es.map (fun e => e.2.1)).Nodup → mergeT acc es = acc ++ es.map fun e => (e.2.1, e.2.2.2)
  | [], acc, _ => by simp [mergeT]
  | e :: es, acc, hn => by
    have hno : ¬ e.2.1 ∈ acc.map (·.1) := fun hm => by
      rw [List.map_cons, List.nodup_append] at hn
      exact hn.2.2 _ hm _ List.mem_cons_self rfl
    have hv : valV acc e.2.1 = none := by
      unfold valV
      rw [Option.map_eq_none_iff, List.find?_eq_none]
      intro q hq z
      exact hno (List.mem_map.mpr ⟨q, hq, of_decide_eq_true z⟩)
    show mergeT (putK acc e.2.1 e.2.2.2) es = _
    rw [putK_new _ hv, merge_new es _ (by rw [List.map_append, List.map_cons, List.map_nil, List.append_assoc]; exact hn), List.map_cons, List.append_assoc]
    rfl
def rT (B : Base κ) (ρ : Rho) (kvs : List (List Key × PyData)) : TE := fun σ H Q => ∃ S, Rel B ρ σ H S ∧ ∀ p ws H2 S2, Step S H S2 H2 → H p = none → S2 p = none → H2 p = some (.dT ws) → PT' κ S2 ws kvs → Q (.ref p) H2
/-- a new dict -/
def DT (X : Cx) (e : Expr) (ρ : Rho) (kvs : List (List Key × PyData)) : Prop := ∀ B : Base X.K, PE X e (rT B ρ kvs)
theorem DT.toK (h : DT X e ρ kvs) : DK X e ρ (.dict (dOfT kvs)) := fun B => (h B).imp fun σ H Q ⟨S, R, q⟩ => ⟨S, R, fun p ws H2 S2 t hp hs hv r => q (.ref p) H2 (upd S2 p (.dT ws)) (t.take hp hs hv) (.dT (.inl upd_same) (r.mono (Ex.new hs)).rpT)⟩
def encQ (L : List (List Nat × PyData)) : List (List Key × PyData) := L.map fun q => (keyN q.1, q.2)
theorem dictL {r : Nat} {L : List (List Nat × PyData)} (hr : Room r X.A) (ha : DL X e ρ (L.map fun q => .tuple [nT q.1, q.2])) (hn : (L.map (·.1)).Nodup) (mn : X.mg n = none) (hc : X.calm = true := by rfl) (g : X.mg n = none → Blt X n (.type "dict") := by exact fun h => blt h) (s : Arg1 X e [] pos := by exact a1) : DT X (.Call (.Name n p) [e] [] pos) ρ (encQ L) := fun B =>
  (pe_callTy (call_dictLT hc (by have := hr.units; omega)) (g mn).gl (g mn).mg (g mn).bt (pa_cons (ha B) pa_nil s.st) (g mn).nn (g mn).nd s.st s.pl).imp fun σ H Q ⟨S, R, q⟩ => ⟨S, R, fun a vs H1 S1 t1 hv r1 => by
    obtain ⟨es, rfl, h2, h3⟩ := ents_of r1
    refine ⟨a, es, rfl, .of hv, fun e he => ⟨t1.sub _ _ (h2 e he).1, t1.sub _ _ (h2 e he).2⟩, fun pp hp => ?_⟩
    have hk := ents_keys h3
    have hnd : (([] : List (List Key × V)).map (·.1) ++ es.map (fun e => e.2.1)).Nodup := by
      rw [List.map_nil, List.nil_append, hk, List.nodup_iff_pairwise_ne, List.pairwise_map]
      rw [List.nodup_iff_pairwise_ne, List.pairwise_map] at hn
      exact hn.imp fun h z => h (keyN_inj z)
    rw [merge_new es [] hnd, List.nil_append]
    exact q pp _ _ S1 (t1.trans (.heap t1.sub (Ex.new hp))) (t1.h.back hp) (t1.sub.back hp) upd_same (ents_pt h3)⟩
/-- name = dict(..), own -/
theorem setT' (i : Nat) {pn : Pos} (he : DT X e ρ kvs) (h : K.nx (ρ.set i (some (.t false kvs)))) (hN : X.N.Nodup := by assumption) (hi : X.N[i]? = some n := by rfl) (hx : L2.Loc X.env.scope n := by first | exact Or.inl rfl | exact Or.inr rfl) (hf : X.fn n = true ∨ X.env.scope.names.lookup n = some .local := by first | exact .inl rfl | exact .inr rfl) (hs : swapsWith e (some (.Name n pn)) pos.line X.env = pure false := by rfl) :
    DS X W (.Assign [.Name n pn] e pos) ρ K := fun B =>
  (ps_set hN hi hx (he B) hs hf).imp fun D σ H ⟨⟨S, R⟩, A⟩ => ⟨S, R, fun p ws H2 S2 t hp hs hv r1 => A.nx _ _ H2 S2 (R.setO t.h (R.step t) i (s := .t false kvs) (fun q hq => by cases hq; exact hp) ⟨p, ws, rfl, R.exH.back hp, hs, hv, r1⟩) h⟩
/-! ### an own pair of own lists -/
variable {φ : List PyData → Rs → Prop} {M : Nat} {zs : List PyData}
/-- name = f(..), which gives a new pair -/
theorem setP (i : Nat) {pn : Pos} (d : Def X n M φ) (ha : DAk X (e :: es) ρ zs) (h1 : φ zs (.p xs ys)) (h : ∀ ep, K.nx (ρ.set i (some (.p2 ep (xs, ys))))) (hm : zs.length = M := by rfl) (s : Arg1 X e es pos := by exact a1) {n2 : Str} (hN : X.N.Nodup := by assumption) (hi : X.N[i]? = some n2 := by rfl) (hx : L2.Loc X.env.scope n2 := by first | exact Or.inl rfl | exact Or.inr rfl) (hf : X.fn n2 = true ∨ X.env.scope.names.lookup n2 = some .local := by first | exact .inl rfl | exact .inr rfl) (hs : swapsWith (.Call (.Name n p) (e :: es) [] pos) (some (.Name n2 pn)) p2.line X.env = pure false := by rfl) :
    DS X W (.Assign [.Name n2 pn] (.Call (.Name n p) (e :: es) [] pos) p2) ρ K := fun B => by
  obtain ⟨f, fd, ps, k, F, hr, hg, hk, hb⟩ := d.ok
  refine (ps_set hN hi hx (pe_call F hr d.gl hg hk hb .nil passL (ha B) d.nd s.st s.pl) hs hf).imp fun D σ H ⟨⟨S, R⟩, A⟩ => ⟨S, R, fun vs H1 S1 t1 r1 => ?_⟩
  show spD X.K φ M (vs ++ []) H1 _ E0
  rw [List.append_nil]
  refine ⟨S1, zs, _, t1.sub, r1, h1, hm, fun v H2 ⟨S', ep, t2, ev, o2, hne⟩ => ?_, fun C hC => by cases hC⟩
  subst ev
  obtain ⟨g1, ⟨v2, m1, m2, m3, m4⟩, ⟨v3, n1, n2, n3, n4⟩⟩ := o2
  have tt := t1.trans t2
  refine A.nx _ _ H2 S' (R.setO tt.h (R.step tt) i (s := .p2 ep (xs, ys)) (fun q hq => ?_) ⟨rfl, ⟨g1, ⟨v2, R.exH.back (t1.h.back m1), m2, m3, m4⟩, ⟨v3, R.exH.back (t1.h.back n1), n2, n3, n4⟩⟩, hne⟩) (h ep)
  rcases hq with rfl | rfl
  · exact t1.h.back m1
  · exact t1.h.back n1
/-- a call that gives a new pair, read -/
theorem ceP (d : Def X n M φ) (ha : DAk X (e :: es) ρ zs) (h1 : φ zs (.p xs ys)) (hm : zs.length = M := by rfl) (s : Arg1 X e es pos := by exact a1) : DE X (.Call (.Name n p) (e :: es) [] pos) ρ (pairD (xs, ys)) := fun B => by
  obtain ⟨f, fd, ps, k, F, hr, hg, hk, hb⟩ := d.ok
  refine (pe_call F hr d.gl hg hk hb .nil passL (ha B) d.nd s.st s.pl).imp fun σ H Q ⟨S, R, q⟩ => ⟨S, R, fun vs H1 S1 t1 r1 => ?_⟩
  show spD X.K φ M (vs ++ []) H1 Q E0
  rw [List.append_nil]
  refine ⟨S1, zs, _, t1.sub, r1, h1, hm, fun v H2 ⟨S', ep, t2, ev, o2, hne⟩ => ?_, fun C hC => by cases hC⟩
  subst ev
  obtain ⟨g1, ⟨v2, m1, m2, m3, m4⟩, ⟨v3, n1, n2, n3, n4⟩⟩ := o2
  exact q _ H2 (t1.h.trans t2.h) (.tup g1 (.cons (.lst m3 (m4.mono t2.sub)) (.cons (.lst n3 (n4.mono t2.sub)) .nil)))
/-- return (e1, e2), two new lists -/
theorem retP {kk : Nat} {tp : Pos} (h1 : DF X e1 ρ xs) (h2 : DF X e2 ρ ys) (h : K.rt (.p xs ys)) (s1 : starEach [e1, e2] X.env = (false, eval e1 X.env) :: starEach [e2] X.env := by rfl) (s2 : starEach [e2] X.env = (false, eval e2 X.env) :: starEach [] X.env := by rfl) : DS X W (.Return (some (.Tuple [e1, e2] kk tp)) pos) ρ K := fun B =>
  (ps_ret (dpr h1 h2 s1 s2 B)).imp fun D σ H ⟨⟨S, R⟩, A⟩ => ⟨S, R, fun t q r vs ws H2 S2 st hq hr hqr hs1 hs2 a1 a2 a3 r1 r2 =>
    A.rt (.p xs ys) _ H2 ⟨S2, (t, q, r), (R.step st).base, rfl, ⟨a3, ⟨vs, R.exH.back hq, hs1, a1, r1⟩, ⟨ws, R.exH.back hr, hs2, a2, r2⟩⟩, hqr⟩ h⟩
/-- list(name[c]), name an own pair -/
theorem listP2 (i : Nat) (kb : Bool) {cc : Int} {kk : Nat} {pn p3 sp : Pos} {m0 : Str} (hcc : cc = if kb then 1 else 0) (mn : X.mg n = none) (hi : ρ[i]? = some (some (.p2 ep xp)) := by rfl) (hN : X.N[i]? = some m0 := by rfl) (hv : Vis X.env.scope m0 := by first | exact Or.inl rfl | exact Or.inr (Or.inl rfl) | exact Or.inr (Or.inr rfl)) (hd : (m0 == ("__debug__" : Str)) = false := by decide) (hcd : (m0 == ("__classdict__" : Str)) = false := by decide)
    (g : X.mg n = none → Blt X n (.type "list") := by exact fun h => blt h) (s : Arg1 X (.Subscript (.Name m0 pn) (.Constant (.int cc) kk p3) sp) [] pos := by exact a1) (hpi : PlainIx (.Constant (.int cc) kk p3) := by (intro _ _; rfl)) :
    DF X (.Call (.Name n p) [.Subscript (.Name m0 pn) (.Constant (.int cc) kk p3) sp] [] pos) ρ (pickP kb xp) := fun B =>
  (pe_callTy call_list_of (g mn).gl (g mn).mg (g mn).bt (pa_cons (pe_ix ix_tup (pe_var hN hv hd hcd) pe_int hpi) pa_nil s.st) (g mn).nn (g mn).nd s.st s.pl).imp fun σ H Q ⟨S, R, q⟩ => by
    obtain ⟨v, h1, rfl, o2, hne⟩ := R.sl i _ hi
    obtain ⟨vs, m1, m2, m3, m4⟩ := o2.pick kb
    refine ⟨_, h1, ep.1, [.ref ep.2.1, .ref ep.2.2], cc, .ref (pickA kb ep), rfl, rfl, .of o2.1, ?_, pickA kb ep, vs, rfl, .inl (.of m3), fun l hl => q l vs _ S (.heap R.sub (Ex.new hl)) hl (R.sub.back hl) upd_same m4⟩
    subst hcc
    cases kb <;> rfl
theorem Rel.mutP {B : Base X.K} {σ : L2.St} {H S : Hp} {i : Nat} (kb : Bool) {vs : List V} (R : Rel B ρ σ H S) (hi : ρ[i]? = some (some (.p2 ep xp))) (hv : σ[i]? = some (some (.ref ep.1))) (r : RpA X.K S vs xs) : Rel B (ρ.set i (some (.p2 ep (putP kb xp xs)))) σ (upd H (pickA kb ep) (.lst vs)) S := by
  obtain ⟨v, h1, rfl, o2, hne⟩ := R.sl i _ hi
  obtain ⟨g1, ⟨v2, m1, m2, m3, m4⟩, ⟨v3, n1, n2, n3, n4⟩⟩ := o2
  have ne1 : ep.1 ≠ ep.2.1 := fun z => by rw [z, m3] at g1; cases g1
  have ne2 : ep.1 ≠ ep.2.2 := fun z => by rw [z, n3] at g1; cases g1
  cases kb with
  | false =>
    refine R.mutO hi hv (s' := .p2 ep (putP false xp xs)) (p := ep.2.1) (.inl rfl) (fun q hq => .inl hq) ⟨rfl, ⟨?_, ⟨vs, m1, m2, upd_same, r⟩, ⟨v3, n1, n2, ?_, n4⟩⟩, hne⟩
    · rw [upd_ne ne1]; exact g1
    · rw [upd_ne (Ne.symm hne)]; exact n3
  | true =>
    refine R.mutO hi hv (s' := .p2 ep (putP true xp xs)) (p := ep.2.2) (.inr rfl) (fun q hq => .inl hq) ⟨rfl, ⟨?_, ⟨v2, m1, m2, ?_, m4⟩, ⟨vs, n1, n2, upd_same, r⟩⟩, hne⟩
    · rw [upd_ne ne2]; exact g1
    · rw [upd_ne hne]; exact m3
/-- name[c].clear() -/
theorem clrP2 (i : Nat) (kb : Bool) {cc : Int} {kk : Nat} {pn p3 sp ap cp : Pos} (hcc : cc = if kb then 1 else 0) (h : K.nx (ρ.set i (some (.p2 ep (putP kb xp []))))) (hi : ρ[i]? = some (some (.p2 ep xp)) := by rfl) (hN : X.N[i]? = some n := by rfl) (hv : Vis X.env.scope n := by first | exact Or.inl rfl | exact Or.inr (Or.inl rfl) | exact Or.inr (Or.inr rfl)) (hd : (n == ("__debug__" : Str)) = false := by decide) (hcd : (n == ("__classdict__" : Str)) = false := by decide)
    (hbase : attributeBase (.Subscript (.Name n pn) (.Constant (.int cc) kk p3) sp) "clear" X.env (eval (.Subscript (.Name n pn) (.Constant (.int cc) kk p3) sp) X.env) = eval (.Subscript (.Name n pn) (.Constant (.int cc) kk p3) sp) X.env := by rfl)
    (hline : (ap.endLine == cp.line) = true := by rfl) (hs : swapsWith (.Call (.Attribute (.Subscript (.Name n pn) (.Constant (.int cc) kk p3) sp) "clear" ap) [] [] cp) none pos.line X.env = pure false := by rfl) (hpi : PlainIx (.Constant (.int cc) kk p3) := by (intro _ _; rfl)) :
    DS X W (.Expr (.Call (.Attribute (.Subscript (.Name n pn) (.Constant (.int cc) kk p3) sp) "clear" ap) [] [] cp) pos) ρ K := fun B =>
  (ps_expr (pe_bm0 PySem.F.plainAttrs_list PySem.F.slot_list_clear PySem.F.type_list_clear mt_clear (pe_ix ix_tup (pe_var hN hv hd hcd) pe_int hpi) hbase hline) hs).imp fun D σ H ⟨⟨S, R⟩, A⟩ => by
    obtain ⟨v, h1, rfl, o2, hne⟩ := R.sl i _ hi
    obtain ⟨vs, m1, m2, m3, m4⟩ := o2.pick kb
    refine ⟨_, h1, ep.1, [.ref ep.2.1, .ref ep.2.2], cc, .ref (pickA kb ep), rfl, rfl, .of o2.1, ?_, .inl ⟨rfl, vs, .of m3⟩, pickA kb ep, vs, rfl, rfl, m3, A.nx _ _ _ S (R.mutP kb hi h1 .nil) h⟩
    subst hcc
    cases kb <;> rfl
/-- name[c].append(e) -/
theorem appP2 (i : Nat) (kb : Bool) {cc : Int} {kk : Nat} {pn p3 sp ap cp : Pos} (hcc : cc = if kb then 1 else 0) (he : DK X e ρ x) (hz : (pickP kb xp).length < sizeLine) (h : K.nx (ρ.set i (some (.p2 ep (putP kb xp (pickP kb xp ++ [x])))))) (hi : ρ[i]? = some (some (.p2 ep xp)) := by rfl) (hN : X.N[i]? = some n := by rfl) (hv : Vis X.env.scope n := by first | exact Or.inl rfl | exact Or.inr (Or.inl rfl) | exact Or.inr (Or.inr rfl)) (hd : (n == ("__debug__" : Str)) = false := by decide) (hcd : (n == ("__classdict__" : Str)) = false := by decide)
    (hbase : attributeBase (.Subscript (.Name n pn) (.Constant (.int cc) kk p3) sp) "append" X.env (eval (.Subscript (.Name n pn) (.Constant (.int cc) kk p3) sp) X.env) = eval (.Subscript (.Name n pn) (.Constant (.int cc) kk p3) sp) X.env := by rfl)
    (hfew : ((backTo cp (starEach (e :: []) X.env)).all (fun x => !x.1) && (backToKw cp (keywordEach [] X.env)).all (fun x => x.1.isSome)
      && decide ((e :: []).length + ([] : List Keyword).length + (if ([] : List Keyword).isEmpty then 0 else 1) < 30)) = true := by rfl)
    (hline : (ap.endLine == cp.line) = true := by rfl) (g : Arg1 X e [] cp := by exact a1) (hs : swapsWith (.Call (.Attribute (.Subscript (.Name n pn) (.Constant (.int cc) kk p3) sp) "append" ap) [e] [] cp) none pos.line X.env = pure false := by rfl) (hpi : PlainIx (.Constant (.int cc) kk p3) := by (intro _ _; rfl)) :
    DS X W (.Expr (.Call (.Attribute (.Subscript (.Name n pn) (.Constant (.int cc) kk p3) sp) "append" ap) [e] [] cp) pos) ρ K := fun B =>
  (ps_expr (pe_bm PySem.F.plainAttrs_list PySem.F.slot_list_append PySem.F.type_list_append mt_append (pe_ix ix_tup (pe_var hN hv hd hcd) pe_int hpi) (pa_cons (he B) pa_nil g.st) hbase hfew hline g.st g.pl) hs).imp fun D σ H ⟨⟨S, R⟩, A⟩ => by
    obtain ⟨v, h1, rfl, o2, hne⟩ := R.sl i _ hi
    obtain ⟨vs, m1, m2, m3, m4⟩ := o2.pick kb
    refine ⟨_, h1, ep.1, [.ref ep.2.1, .ref ep.2.2], cc, .ref (pickA kb ep), rfl, rfl, .of o2.1, ?_, .inl ⟨rfl, vs, .of m3⟩, S, R, fun w H2 S2 t r1 => ⟨pickA kb ep, vs, w, rfl, rfl, t.h _ _ m3, by rw [m4.length]; exact hz, A.nx _ _ _ S2 ((R.step t).mutP kb hi h1 ((m4.mono t.s).append (.one r1))) h⟩⟩
    subst hcc
    cases kb <;> rfl
end
end Dt

/-! Dt: name = sorted(set(list of pairs)): in whatever order. -/
namespace Dt
open PySem PySem.Spec PyProof.Rows L2
variable {κ : PySem.W.Frag}
theorem RpA.keyed {S : Hp} : ∀ {L : List (List Nat)} {vs : List V}, RpA κ S vs (L.map nT) → ∃ as : List Addr, vs = as.map V.ref ∧ Paired (fun a l => S a = some (.tup (l.map fun o : Nat => V.int (o : Int)))) as L
  | [], _, .nil => ⟨[], rfl, .nil⟩
  | l :: L, _, .cons h t => by
    obtain ⟨as, rfl, p⟩ := RpA.keyed t
    obtain ⟨b, rfl, hb⟩ := h.keyT
    refine ⟨b :: as, rfl, .cons ?_ p⟩
    rw [hb]
    congr 2
    unfold keyN
    rw [List.map_map]
    rfl
section
variable {X : Cx} {W : WX} {e a : Expr} {ρ : Rho} {pos p2 p3 : Pos} {n n1 n2 : Str} {K : En} {L : List (List Nat)} {d M : Nat}
theorem sortSetP (i : Nat) {pn q1 q2 : Pos} {r : Nat} (hr : Room r X.A) (ha : DL X e ρ (L.map nT)) (m1 : X.mg n1 = none) (m2 : X.mg n2 = none) (hl : L.length < 64) (hd : 1 ≤ d) (hb : ∀ l ∈ L, l.length = d ∧ ∀ x ∈ l, x < M)
    (h : ∀ ys : List (List Nat), ys.Nodup → (∀ l, l ∈ ys ↔ l ∈ L) → K.nx (ρ.set i (some (.l (ys.map nT)))))
    (hN : X.N.Nodup := by assumption) (hi : X.N[i]? = some n := by rfl) (hx : L2.Loc X.env.scope n := by first | exact Or.inl rfl | exact Or.inr rfl) (hf : X.fn n = true ∨ X.env.scope.names.lookup n = some .local := by first | exact .inl rfl | exact .inr rfl)
    (hs : swapsWith (.Call (.Name n1 q1) [.Call (.Name n2 q2) [e] [] p2] [] p3) (some (.Name n pn)) pos.line X.env = pure false := by rfl)
    (hc : X.calm = true := by rfl) (g1 : X.mg n1 = none → Blt X n1 (.builtin "sorted") := by exact fun h => blt h) (g2 : X.mg n2 = none → Blt X n2 (.type "set") := by exact fun h => blt h) (s : Arg1 X e [] p2 := by exact a1) (s2 : Arg1 X (.Call (.Name n2 q2) [e] [] p2) [] p3 := by exact a1) :
    DS X W (.Assign [.Name n pn] (.Call (.Name n1 q1) [.Call (.Name n2 q2) [e] [] p2] [] p3) pos) ρ K := fun B =>
  (ps_set hN hi hx (pe_callB (cr_sortedT hc) (g1 m1).gl (g1 m1).mg (g1 m1).bt (pa_cons (pe_callTy (cr_setOfT hc hr.units) (g2 m2).gl (g2 m2).mg (g2 m2).bt (pa_cons (ha B) pa_nil s.st) (g2 m2).nn (g2 m2).nd s.st s.pl) pa_nil s2.st) (g1 m1).nn (g1 m1).nd s2.st s2.pl) hs hf).imp fun D σ H ⟨⟨S, R⟩, A⟩ => ⟨S, R, fun a vs H1 S1 t1 hv r1 => by
    obtain ⟨as, rfl, pk⟩ := r1.keyed
    let ks : List (Addr × List Int) := (as.zip L).map fun q => (q.1, q.2.map fun o : Nat => (o : Int))
    have hlen : as.length = L.length := Paired.len' pk
    have k1 : ks.map (fun p => V.ref p.1) = as.map V.ref := by
      show ((as.zip L).map _).map _ = _
      rw [List.map_map]
      have : ((fun p : Addr × List Int => V.ref p.1) ∘ fun q : Addr × List Nat => (q.1, q.2.map fun o : Nat => (o : Int))) = V.ref ∘ Prod.fst := rfl
      rw [this, ← List.map_map, List.map_fst_zip (by omega)]
    have kk : ∀ q ∈ as.zip L, S1 q.1 = some (.tup (q.2.map fun o : Nat => V.int (o : Int))) := by
      have key : ∀ {as : List Addr} {L : List (List Nat)}, Paired (fun a l => S1 a = some (.tup (l.map fun o : Nat => V.int (o : Int)))) as L → ∀ q ∈ as.zip L, S1 q.1 = some (.tup (q.2.map fun o : Nat => V.int (o : Int))) := by
        intro as L pk
        induction pk with
        | nil => intro q hq; cases hq
        | cons h t ih =>
          intro q hq
          rw [List.zip_cons_cons] at hq
          rcases List.mem_cons.mp hq with rfl | hq
          · exact h
          · exact ih q hq
      exact key pk
    have ksT : ∀ p ∈ ks, S1 p.1 = some (.tup (p.2.map V.int)) := fun p hp => by
      obtain ⟨q, hq, rfl⟩ := List.mem_map.mp hp
      rw [kk q hq, List.map_map]
      rfl
    refine ⟨a, ks, rfl, by rw [k1]; exact .of hv, fun p hp => .of (t1.sub _ _ (ksT p hp)), by show ((as.zip L).map _).length < 64; rw [List.length_map, List.length_zip]; omega, fun a2 L2 ha2 hL1 hL2 => ?_⟩
    have e2 : Ex H1 (upd H1 a2 (SetTO X.prog X.w a2 L2)) := Ex.new ha2
    refine ⟨a2, L2, d, (M : Int), rfl, upd_same, fun p hp => .of (e2 _ _ (t1.sub _ _ (ksT p (hL1 p hp)))), hd, fun p hp => ?_, fun L3 pp hperm hnd hl3 _ hpp => ?_⟩
    · obtain ⟨q, hq, rfl⟩ := List.mem_map.mp (hL1 p hp)
      obtain ⟨b1, b2⟩ := hb q.2 (List.of_mem_zip hq).2
      refine ⟨by rw [List.length_map]; exact b1, ?_⟩
      intro x hx
      obtain ⟨o, ho, rfl⟩ := List.mem_map.mp hx
      have := b2 o ho
      omega
    · let ys : List (List Nat) := L3.map fun q => q.2.map Int.toNat
      have h3 : ∀ p ∈ L3, p ∈ ks := fun p hp => hL1 p (hperm.subset hp)
      have back : ∀ p ∈ ks, (p.2.map Int.toNat).map (fun o : Nat => (o : Int)) = p.2 ∧ p.2.map Int.toNat ∈ L := fun p hp => by
        obtain ⟨q, hq, rfl⟩ := List.mem_map.mp hp
        have e : (q.2.map fun o : Nat => (o : Int)).map Int.toNat = q.2 := by
          rw [List.map_map]
          have : (Int.toNat ∘ fun o : Nat => (o : Int)) = id := by funext o; exact Int.toNat_natCast o
          rw [this, List.map_id]
        refine ⟨?_, ?_⟩
        · show ((q.2.map fun o : Nat => (o : Int)).map Int.toNat).map (fun o : Nat => (o : Int)) = q.2.map fun o : Nat => (o : Int)
          rw [e]
        · show (q.2.map fun o : Nat => (o : Int)).map Int.toNat ∈ L
          rw [e]
          exact (List.of_mem_zip hq).2
      have yn : ys.Nodup := by
        show (L3.map fun q => q.2.map Int.toNat).Nodup
        rw [List.nodup_iff_pairwise_ne, List.pairwise_map]
        rw [List.nodup_iff_pairwise_ne, List.pairwise_map] at hnd
        refine hnd.imp_of_mem fun {p q} hp hq hne z => hne ?_
        rw [← (back p (h3 p hp)).1, ← (back q (h3 q hq)).1, z]
      have ym : ∀ l, l ∈ ys ↔ l ∈ L := fun l => by
        constructor
        · intro hl
          obtain ⟨p, hp, rfl⟩ := List.mem_map.mp hl
          exact (back p (h3 p hp)).2
        · intro hl
          obtain ⟨j, hj, rfl⟩ := List.getElem_of_mem hl
          have hz : (as[j]'(by omega), L[j]) ∈ as.zip L := by
            have : (as.zip L)[j]? = some (as[j]'(by omega), L[j]) := by
              rw [List.getElem?_zip_eq_some]
              exact ⟨List.getElem?_eq_getElem (by omega), List.getElem?_eq_getElem hj⟩
            exact List.mem_of_getElem? this
          have hk := hL2 _ (List.mem_map.mpr ⟨_, hz, rfl⟩)
          obtain ⟨p, hp, hpe⟩ := List.mem_map.mp hk
          refine List.mem_map.mpr ⟨p, hperm.symm.subset hp, ?_⟩
          show p.2.map Int.toNat = _
          rw [hpe]
          show (L[j].map fun o : Nat => (o : Int)).map Int.toNat = L[j]
          rw [List.map_map]
          have : (Int.toNat ∘ fun o : Nat => (o : Int)) = id := by funext o; exact Int.toNat_natCast o
          rw [this, List.map_id]
      have items : RpA X.K S1 (L3.map fun q => V.ref q.1) (ys.map nT) := by
        show RpA X.K S1 _ ((L3.map fun q => q.2.map Int.toNat).map nT)
        have key : ∀ M3 : List (Addr × List Int), (∀ p ∈ M3, p ∈ ks) → RpA X.K S1 (M3.map fun q => V.ref q.1) ((M3.map fun q => q.2.map Int.toNat).map nT) := by
          intro M3
          induction M3 with
          | nil => intro _; exact .nil
          | cons q M3 ih =>
            intro hm
            refine .cons (.tup (ksT q (hm q List.mem_cons_self)) ?_) (ih fun p hp => hm p (List.mem_cons_of_mem _ hp))
            have eb := (back q (hm q List.mem_cons_self)).1
            have ri : ∀ l : List Nat, RpA X.K S1 ((l.map fun o : Nat => (o : Int)).map V.int) (l.map nI) := fun l => by
              induction l with
              | nil => exact .nil
              | cons a r ih => exact .cons (.int a) ih
            have := ri (q.2.map Int.toNat)
            rw [eb] at this
            exact this
        exact key L3 h3
      have e3 := e2.trans (Ex.new (o := .lst (L3.map fun q => V.ref q.1)) hpp)
      have hp1 : H1 pp = none := e2.back hpp
      refine A.nx _ _ _ S1 (R.setO (t1.h.trans e3) ((R.step t1).heap e3) i (s := .l (ys.map nT)) (fun q hq => by cases hq; exact t1.h.back hp1) ⟨pp, _, rfl, R.exH.back (t1.h.back hp1), t1.sub.back hp1, upd_same, items⟩) (h ys yn ym)⟩
end
end Dt
namespace Dt
open PySem PySem.Spec PyProof.Rows L2
section
variable {X : Cx} {W : WX} {e a b c : Expr} {ρ : Rho} {pos p : Pos} {n : Str} {i j m : Int} {k k' : Bool}
/-- a <= b < c as a test -/
theorem db_chI {op op' : CmpOp} {p1 p2 : Int → Int → Bool} (ho : OpR X (compareOp op) (rI0 fun i j => .bl (p1 i j))) (ho' : OpR X (compareOp op') (rI0 fun i j => .bl (p2 i j))) (hm : lastMarks [op, op'] [b, c] = false) (ha : DE X a ρ (.int i)) (hb : DE X b ρ (.int j)) (hc : DE X c ρ (.int m)) :
    DB X (.Compare a [op, op'] [b, c] pos) ρ (p1 i j && p2 j m) := fun B =>
  (pt_chain ho ho' (ha B) (hb B) (hc B) hm).imp fun σ H Q ⟨S, R, q⟩ => ⟨S, R, fun u H1 e1 r1 => ⟨S, R.heap e1, fun v H2 e2 r2 => ⟨i, j, (r1.mono e2).int', r2.int', p1 i j, rfl, by
    cases hp : p1 i j with
    | false =>
      rw [hp] at q
      exact iteF ⟨_, rfl, q H2 (e1.trans e2)⟩
    | true =>
      rw [hp] at q
      exact iteT ⟨S, R.heap (e1.trans e2), fun w H3 e3 r3 => ⟨j, m, (r2.mono e3).int', r3.int', _, rfl, q H3 ((e1.trans e2).trans e3)⟩⟩⟩⟩⟩
theorem db_lelt (ha : DE X a ρ (.int i)) (hb : DE X b ρ (.int j)) (hc : DE X c ρ (.int m)) (hm : lastMarks [.LtE, .Lt] [b, c] = false := by with_unfolding_all rfl) : DB X (.Compare a [.LtE, .Lt] [b, c] pos) ρ (decide (i ≤ j) && decide (j < m)) := db_chI op_le op_lt hm ha hb hc
theorem db_lele (ha : DE X a ρ (.int i)) (hb : DE X b ρ (.int j)) (hc : DE X c ρ (.int m)) (hm : lastMarks [.LtE, .LtE] [b, c] = false := by with_unfolding_all rfl) : DB X (.Compare a [.LtE, .LtE] [b, c] pos) ρ (decide (i ≤ j) && decide (j ≤ m)) := db_chI op_le op_le hm ha hb hc
/-- min of a list of numbers -/
theorem minN {l : List Nat} {m : Nat} (ha : DE X e ρ (nL l)) (mn : X.mg n = none) (h1 : m ∈ l) (h2 : ∀ o ∈ l, m ≤ o) (hc : X.calm = true := by rfl) (g : X.mg n = none → Blt X n (.builtin "min") := by exact fun h => blt h) (s : Arg1 X e [] pos := by exact a1) : DK X (.Call (.Name n p) [e] [] pos) ρ (nI m) :=
  dk_callB (cr_min hc) (g mn) (dae1 ha s) s.st s.pl rfl fun vs H Q r q => by
    obtain ⟨v, rfl, h⟩ := r.one'
    cases h with
    | lst hp h =>
      rw [h.nats] at hp
      refine ⟨_, _, rfl, .of hp, by rw [List.length_map]; exact List.length_pos_iff.mpr (List.ne_nil_of_mem h1), fun k hk1 hk2 => ?_⟩
      obtain ⟨o, ho, rfl⟩ := List.mem_map.mp hk1
      have b1 := hk2 _ (List.mem_map.mpr ⟨m, h1, rfl⟩)
      have b2 := h2 o ho
      have : o = m := by omega
      subst this
      exact q _ (.int _)
end
end Dt

/-! Dt: a walk over a dict of tuples, which stands locked meanwhile. -/
namespace Dt
open PySem PySem.Spec PyProof.Rows L2
variable {κ : PySem.W.Frag}
/-- what reading leans on: of dicts those of tuples alone -/
structure Lq (H H' : Hp) : Prop where
  lst : ∀ a xs, H a = some (.lst xs) → H' a = some (.lst xs)
  tup : ∀ a xs, H a = some (.tup xs) → H' a = some (.tup xs)
  scr : ∀ a o xs, H a = some (.frz o (.lst xs)) → H' a = some (.frz o (.lst xs))
  dT : ∀ a kvs, Rd H a (.dT kvs) → Rd H' a (.dT kvs)
mutual
theorem Rp.lq {H H' : Hp} (e : Lq H H') {v : V} {d : PyData} (h : Rp κ H v d) : Rp κ H' v d := match h with
  | .non => .non
  | .bl b => .bl b
  | .int i => .int i
  | .str x => .str x
  | .lst h q => .lst (e.lst _ _ h) (RpA.lq e q)
  | .scr h q => .scr (e.scr _ _ _ h) (RpA.lq e q)
  | .own h q => .own h (RpA.lq e q)
  | .tup h q => .tup (e.tup _ _ h) (RpA.lq e q)
  | .dT h q => .dT (e.dT _ _ h) (RpT.lq e q)
termination_by structural h
theorem RpA.lq {H H' : Hp} (e : Lq H H') {vs : List V} {ds : List PyData} (h : RpA κ H vs ds) : RpA κ H' vs ds := match h with
  | .nil => .nil
  | .cons h q => .cons (Rp.lq e h) (RpA.lq e q)
termination_by structural h
theorem RpT.lq {H H' : Hp} (e : Lq H H') {vs : List (List Key × V)} {ds : List (PyData × PyData)} (h : RpT κ H vs ds) : RpT κ H' vs ds := match h with
  | .nil => .nil
  | .cons h q => .cons (Rp.lq e h) (RpT.lq e q)
termination_by structural h
end
/-- at d the one for the other -/
def Tn (d : Addr) (u v : HO) (F G : Hp) : Prop := (∀ a, a ≠ d → G a = F a) ∧ ((F d = none ∧ G d = none) ∨ (F d = some u ∧ G d = some v))
def tn (d : Addr) (v : HO) (F : Hp) : Hp := fun a => if a = d then (match F d with | some _ => some v | none => none) else F a
/-- a dict, locked or not -/
def LkP (ws : List (List Key × V)) (o : Obj) (u v : HO) : Prop := (u = .dT ws ∧ v = .frz o (.dT ws)) ∨ (u = .frz o (.dT ws) ∧ v = .dT ws)
section
variable {d : Addr} {u v : HO} {F G F' G' : Hp} {ws : List (List Key × V)} {o : Obj}
theorem LkP.symm (h : LkP ws o u v) : LkP ws o v u := by
  rcases h with ⟨h1, h2⟩ | ⟨h1, h2⟩
  · exact .inr ⟨h2, h1⟩
  · exact .inl ⟨h2, h1⟩
theorem LkP.notup (h : LkP ws o u v) (xs : List V) : u ≠ .tup xs := by
  rintro rfl
  rcases h with ⟨h1, _⟩ | ⟨h1, _⟩ <;> cases h1
theorem Tn.mk (h : F d = none ∨ F d = some u) : Tn d u v F (tn d v F) := by
  refine ⟨fun a ha => by unfold tn; rw [if_neg ha], ?_⟩
  rcases h with h | h
  · exact .inl ⟨h, by unfold tn; rw [if_pos rfl, h]⟩
  · exact .inr ⟨h, by unfold tn; rw [if_pos rfl, h]⟩
theorem Tn.upd (h : F d = some u) : Tn d u v F (upd F d v) := ⟨fun a ha => upd_ne ha, .inr ⟨h, upd_same⟩⟩
theorem Tn.symm (h : Tn d u v F G) : Tn d v u G F := ⟨fun a ha => (h.1 a ha).symm, h.2.elim (fun q => .inl ⟨q.2, q.1⟩) fun q => .inr ⟨q.2, q.1⟩⟩
theorem Tn.ex (t : Tn d u v F G) (t' : Tn d u v F' G') (e : Ex F F') : Ex G G' := fun a o h => by
  by_cases ha : a = d
  · subst ha
    rcases t.2 with ⟨h1, h2⟩ | ⟨h1, h2⟩
    · rw [h2] at h; cases h
    · rw [h2] at h; cases h
      rcases t'.2 with ⟨g1, g2⟩ | ⟨g1, g2⟩
      · rw [e _ _ h1] at g1; cases g1
      · exact g2
  · rw [t.1 a ha] at h
    rw [t'.1 a ha]
    exact e _ _ h
theorem Tn.le (t : Tn d u v F G) (hu : LkP ws o u v) : Lq F G := by
  have far : ∀ a w, F a = some w → w ≠ u → a ≠ d ∧ G a = some w := fun a w h hw => by
    have ha : a ≠ d := fun z => by
      subst z
      rcases t.2 with ⟨h1, h2⟩ | ⟨h1, h2⟩
      · rw [h1] at h; cases h
      · rw [h1] at h; cases h; exact hw rfl
    exact ⟨ha, by rw [t.1 a ha]; exact h⟩
  refine ⟨fun a xs h => (far a _ h ?_).2, fun a xs h => (far a _ h ?_).2, fun a o' xs h => (far a _ h ?_).2, fun a w h => ?_⟩
  · rintro rfl; rcases hu with ⟨h1, _⟩ | ⟨h1, _⟩ <;> cases h1
  · rintro rfl; rcases hu with ⟨h1, _⟩ | ⟨h1, _⟩ <;> cases h1
  · rintro rfl; rcases hu with ⟨h1, _⟩ | ⟨h1, _⟩ <;> cases h1
  · by_cases ha : a = d
    · subst ha
      rcases t.2 with ⟨h1, h2⟩ | ⟨h1, h2⟩
      · rcases h with h | ⟨_, h⟩ <;> rw [h1] at h <;> cases h
      · rcases hu with ⟨q1, q2⟩ | ⟨q1, q2⟩
        · subst q1 q2
          rcases h with h | ⟨_, h⟩
          · rw [h1] at h; cases h; exact .inr ⟨o, h2⟩
          · rw [h1] at h; cases h
        · subst q1 q2
          rcases h with h | ⟨_, h⟩
          · rw [h1] at h; cases h
          · rw [h1] at h; cases h; exact .inl h2
    · rcases h with h | ⟨o', h⟩
      · exact .inl (by rw [t.1 a ha]; exact h)
      · exact .inr ⟨o', by rw [t.1 a ha]; exact h⟩
theorem Tn.nwP {H1 G1 S1 T1 : Hp} (tB : Tn d u v H1 G1) (tS : Tn d u v S1 T1) : Tn d u v (nwP H1 S1) (nwP G1 T1) := by
  refine ⟨fun a ha => by unfold Dt.nwP; rw [tB.1 a ha, tS.1 a ha], ?_⟩
  rcases tB.2 with ⟨h1, h2⟩ | ⟨h1, h2⟩
  · rcases tS.2 with ⟨g1, g2⟩ | ⟨g1, g2⟩
    · exact .inl ⟨by unfold Dt.nwP; rw [h1]; exact g1, by unfold Dt.nwP; rw [h2]; exact g2⟩
    · exact .inr ⟨by unfold Dt.nwP; rw [h1]; exact g1, by unfold Dt.nwP; rw [h2]; exact g2⟩
  · exact .inl ⟨by unfold Dt.nwP; rw [h1], by unfold Dt.nwP; rw [h2]⟩
theorem Tn.vS {H1 G1 S1 T1 : Hp} (nw : Bool) (tB : Tn d u v H1 G1) (tS : Tn d u v S1 T1) : Tn d u v (vS nw H1 S1) (vS nw G1 T1) := by
  cases nw
  · exact tS
  · exact tB.nwP tS
theorem PT'.lq {τ : Type} {ws : List (τ × V)} {kvs : List (τ × PyData)} (e : Lq F G) (h : PT' κ F ws kvs) : PT' κ G ws kvs := Paired.mapP h fun _ _ q => ⟨q.1, q.2.lq e⟩
theorem Tn.ne (t : Tn d u v F G) (hu : LkP ws o u v) {a : Addr} {w : HO} (h : F a = some w) (hd : F d = some u) (hw : w ≠ u) : G a = some w := by
  have ha : a ≠ d := fun z => by subst z; rw [hd] at h; cases h; exact hw rfl
  rw [t.1 a ha]
  exact h
end
section
variable {d : Addr} {u v : HO} {ws : List (List Key × V)} {o : Obj} {B B' : Base κ} {S S' H H' : Hp} {ρ : Rho} {σ : L2.St}
theorem OwnAt.tn {p : Addr} {xs : List PyData} (tB : Tn d u v B.H B'.H) (tS : Tn d u v S S') (tH : Tn d u v H H') (hu : LkP ws o u v) (hd : S d = some u) (h : OwnAt B S H p xs) : OwnAt B' S' H' p xs := by
  obtain ⟨vs, e2, e3, e4, e5⟩ := h
  have hp : p ≠ d := fun z => by subst z; rw [hd] at e3; cases e3
  exact ⟨vs, by rw [tB.1 p hp]; exact e2, by rw [tS.1 p hp]; exact e3, by rw [tH.1 p hp]; exact e4, e5.lq (tS.le hu)⟩
theorem OwnP.tn {e : Addr × Addr × Addr} {x : List PyData × List PyData} (tB : Tn d u v B.H B'.H) (tS : Tn d u v S S') (tH : Tn d u v H H') (hu : LkP ws o u v) (hd : S d = some u) (hH : H d = some u) (h : OwnP B S H e x) : OwnP B' S' H' e x := 
  ⟨tH.ne hu h.1 hH fun z => hu.notup _ z.symm, h.2.1.tn tB tS tH hu hd, h.2.2.tn tB tS tH hu hd⟩
theorem SlR.tn {w : V} {s : Sl} (tB : Tn d u v B.H B'.H) (tS : Tn d u v S S') (tH : Tn d u v H H') (hu : LkP ws o u v) (hd : S d = some u) (hH : H d = some u) (h : SlR B S H w s) : SlR B' S' H' w s := by
  have apart : ∀ {p : Addr}, S p = none → p ≠ d := fun {p} e3 z => by subst z; rw [hd] at e3; cases e3
  cases s with
  | d x => exact Rp.lq (tS.le hu) h
  | x a => exact h
  | l xs =>
    obtain ⟨p, vs, e1, e2, e3, e4, e5⟩ := h
    have hp := apart e3
    exact ⟨p, vs, e1, by rw [tB.1 p hp]; exact e2, by rw [tS.1 p hp]; exact e3, by rw [tH.1 p hp]; exact e4, e5.lq (tS.le hu)⟩
  | t nw xs =>
    obtain ⟨p, vs, e1, e2, e3, e4, e5⟩ := h
    have hp := apart e3
    exact ⟨p, vs, e1, by rw [tB.1 p hp]; exact e2, by rw [tS.1 p hp]; exact e3, by rw [tH.1 p hp]; exact e4, e5.lq ((Tn.vS nw tB tS).le hu)⟩
  | k xs =>
    obtain ⟨p, vs, e1, e2, e3, e4, e5⟩ := h
    have hp := apart e3
    exact ⟨p, vs, e1, by rw [tB.1 p hp]; exact e2, by rw [tS.1 p hp]; exact e3, by rw [tH.1 p hp]; exact e4, e5.lq (tS.le hu)⟩
  | pp a fp ps =>
    obtain ⟨e1, e2, e3, e4, e5, e6⟩ := h
    have hp := apart e3
    exact ⟨e1, by rw [tB.1 a hp]; exact e2, by rw [tS.1 a hp]; exact e3, by rw [tH.1 a hp]; exact e4, e5, Paired.mapP e6 fun _ _ q => OwnP.tn tB tS tH hu hd hH q⟩
  | p2 e2 x =>
    obtain ⟨e1, q, ne⟩ := h
    exact ⟨e1, OwnP.tn tB tS tH hu hd hH q, ne⟩
theorem NT.tn {F G : Hp} {a : Addr} (t : Tn d u v F G) (ha : a ≠ d) (h : NT F a) : NT G a := by
  unfold NT at h ⊢
  rw [t.1 a ha]
  exact h
theorem Rel.tn (R : Rel B ρ σ H S) (tBS : Tn d u v B.S B'.S) (tB : Tn d u v B.H B'.H) (tS : Tn d u v S S') (tH : Tn d u v H H') (hu : LkP ws o u v) (hd : S d = some u) : Rel B' ρ σ H' S' where
  exH := tB.ex tH R.exH
  exS := tBS.ex tS R.exS
  sub := tS.ex tH R.sub
  nw := fun a w h h' => by
    by_cases ha : a = d
    · subst ha
      rcases tBS.2 with ⟨g1, _⟩ | ⟨_, g2⟩
      · rcases R.nw a u hd g1 with q | ⟨xs, q⟩
        · rcases tB.2 with ⟨_, q2⟩ | ⟨q1, _⟩
          · exact .inl q2
          · rw [q1] at q; cases q
        · rcases tB.2 with ⟨q1, _⟩ | ⟨q1, _⟩
          · rw [q1] at q; cases q
          · rw [q1] at q; cases q; exact absurd rfl (hu.notup xs)
      · rw [g2] at h'; cases h'
    · rw [tS.1 a ha] at h
      rw [tBS.1 a ha] at h'
      exact NT.tn tB ha (R.nw a w h h')
  len := R.len
  sl := fun i s h => by
    obtain ⟨w, h1, h2⟩ := R.sl i s h
    exact ⟨w, h1, h2.tn tB tS tH hu hd (R.sub _ _ hd)⟩
  sep := R.sep
theorem Step.tn {S1 H1 T G T1 G1 : Hp} (t : Step S H S1 H1) (tS : Tn d u v S T) (tH : Tn d u v H G) (tS1 : Tn d u v S1 T1) (tH1 : Tn d u v H1 G1) (hu : LkP ws o u v) (hd : S1 d = some u) : Step T G T1 G1 where
  h := tH.ex tH1 t.h
  s := tS.ex tS1 t.s
  sub := tS1.ex tH1 t.sub
  nw := fun a w h h' => by
    by_cases ha : a = d
    · subst ha
      rcases tS.2 with ⟨g1, _⟩ | ⟨_, g2⟩
      · rcases t.nw a u hd g1 with q | ⟨xs, q⟩
        · rcases tH.2 with ⟨_, q2⟩ | ⟨q1, _⟩
          · exact .inl q2
          · rw [q1] at q; cases q
        · rcases tH.2 with ⟨q1, _⟩ | ⟨q1, _⟩
          · rw [q1] at q; cases q
          · rw [q1] at q; cases q; exact absurd rfl (hu.notup xs)
      · rw [g2] at h'; cases h'
    · rw [tS1.1 a ha] at h
      rw [tS.1 a ha] at h'
      exact NT.tn tH ha (t.nw a w h h')
end
end Dt

namespace Dt
open PySem PySem.Spec PyProof.Rows L2
section
variable {X : Cx} {W : WX} {tg e elt : Expr} {ifs : List Expr} {ρ : Rho} {pos pn : Pos} {n : Str} {body : List Stmt} {K : En} {kvs : List (List Key × PyData)} {i : Nat}
theorem rd_for {α : Type} (B : Base X.K) (L : List α) (E : α → PyData) (js : List Nat) (Inv : List α → Rho → Prop)
    (h0 : Inv [] (wipeR ρ js))
    (hs : ∀ pre a post ρ', L = pre ++ a :: post → Inv pre ρ' → ∃ ρ'' js', DG X tg (E a) ρ' ρ'' js' ∧ DSs X W body ρ'' { nx := fun r => Inv (pre ++ [a]) (wipeR r js), ct := fun r => Inv (pre ++ [a]) (wipeR r js), bk := K.nx, rt := K.rt, ex := K.ex })
    (hd : ∀ ρ', Inv L ρ' → K.nx ρ') : ∀ D σ H, rS B W ρ K D σ H → tFor (rLi B ρ (L.map E)) (uG X tg) (uSs X W body) D σ H := fun D σ H ⟨⟨S, R⟩, A⟩ =>
  ⟨S, R, fun J H2 S2 t Sr => by
    have R1 := R.step t
    have hnw := R1.nw
    have unb : ∀ {ρ' σ' H' S'}, Rel ⟨S2, B.H⟩ ρ' σ' H' S' → Rel B ρ' σ' H' S' := fun R' => R'.unbase R1.exS hnw
    refine ⟨fun i m σ' H' => m = L.length - i ∧ i ≤ L.length ∧ ∃ ρ' S', Inv (L.take i) ρ' ∧ Rel ⟨S2, B.H⟩ ρ' σ' H' S', ⟨L.length, by simp, Nat.zero_le _, _, S2, by rw [List.take_zero]; exact h0, (R1.rebase).wipe js⟩, ?_⟩
    rintro i m σ' H' ⟨rfl, hi', ρ', S', inv, R'⟩
    by_cases hlt : i < L.length
    · have ei : L = L.take i ++ L[i] :: L.drop (i + 1) := by
        rw [List.getElem_cons_drop, List.take_append_drop]
      have e3 : L.take (i + 1) = L.take i ++ [L[i]] := by rw [List.take_add_one, List.getElem?_eq_getElem hlt]; rfl
      have ex : (L.map E)[i]? = some (E L[i]) := by rw [List.getElem?_map, List.getElem?_eq_getElem hlt]; rfl
      refine .inr ⟨Sr.go i _ H' ex (R'.exS.trans R'.sub), fun σ2 H3 => ∃ ρ2 S3, Inv (L.take (i + 1)) ρ2 ∧ Rel ⟨S2, B.H⟩ ρ2 σ2 H3 S3, fun σ2 H3 ⟨ρ2, S3, q1, q2⟩ => ⟨L.length - (i + 1), by omega, rfl, hlt, ρ2, S3, q1, q2⟩, fun v H3 y => ?_⟩
      obtain ⟨S3, t3, r3⟩ := Sr.yld i _ v H' H3 S' ex R'.sub R'.exS y
      have R3 := R'.step t3
      obtain ⟨ρ'', js', dg, db⟩ := hs _ _ _ _ ei inv
      refine ⟨⟨S2, B.H⟩, ρ', _, ρ'', js', S3, dg, R3, r3, fun σ2 _ R4 => ⟨⟨S2, B.H⟩, ρ'', _, db, ⟨S3, R4⟩, ⟨fun r σ5 H5 S5 R5 q => ?_, fun r σ5 H5 S5 R5 q => A.nx _ _ _ _ (unb R5) q, fun r σ5 H5 S5 R5 q => ?_, fun o v5 H5 q z => A.rt o v5 H5 (q.unbase R1.exS hnw) z, fun C σ5 H5 S5 q z => A.ex C σ5 H5 S5 (Step.unbase (B := B) q R1.exS hnw) z⟩⟩⟩
      · exact ⟨_, S5, by rw [e3]; exact q, R5.wipe js⟩
      · exact ⟨_, S5, by rw [e3]; exact q, R5.wipe js⟩
    · have e : i = L.length := by omega
      subst e
      rw [List.take_length] at inv
      refine .inl ⟨?_, A.nx _ _ _ _ (unb R') (hd _ inv)⟩
      have := Sr.stop H' (R'.exS.trans R'.sub)
      rw [List.length_map] at this
      exact this⟩

/-- the dict in slot i is locked -/
def Zk (i : Nat) (σ : L2.St) (H : Hp) : Prop := ∃ d o ws, σ[i]? = some (some (.ref d)) ∧ H d = some (.frz o (.dT ws))
theorem rp_key {κ : PySem.W.Frag} {S : Hp} {q : Addr} {k : List Key} (h : S q = some (.tup (k.map kV))) : Rp κ S (.ref q) (.tuple (k.map keyD)) := by
  refine .tup h ?_
  have key : ∀ k : List Key, RpA κ S (k.map kV) (k.map keyD) := by
    intro k
    induction k with
    | nil => exact .nil
    | cons a l ih =>
      cases a with
      | inl a => exact .cons (.int a) ih
      | inr a => exact .cons (.str a) ih
  exact key k
theorem pt_len {κ : PySem.W.Frag} {S : Hp} {ws : List (List Key × V)} {kvs : List (List Key × PyData)} (h : PT' κ S ws kvs) : ws.length = kvs.length := Paired.length h
theorem pt_at {κ : PySem.W.Frag} {S : Hp} : ∀ {ws : List (List Key × V)} {kvs : List (List Key × PyData)}, PT' κ S ws kvs → ws.map (·.1) = kvs.map (·.1)
  | _, _, .nil => rfl
  | _, _, .cons h t => by rw [List.map_cons, List.map_cons, h.1, pt_at t]
theorem src_keys {d : Addr} {o : Obj} {ws : List (List Key × V)} {S : Hp} (hp : S d = some (.frz o (.dT ws))) (r : PT' X.K S ws kvs) : Src X.K (Itkt d o ws) S (kvs.map fun q => .tuple (q.1.map keyD)) where
  go := fun i x H hx e => ⟨e _ _ hp, by
    have := (List.getElem?_eq_some_iff.mp hx).1
    rw [List.length_map] at this
    rw [pt_len r]
    exact this⟩
  yld := fun i x v H H' S1 hx R e ⟨e1, k, w, q, hk, hv, hq⟩ => by
    subst e1
    subst hv
    have hxe : x = .tuple (k.map keyD) := by
      have h1 : (ws.map (·.1))[i]? = some k := by rw [List.getElem?_map, hk]; rfl
      rw [pt_at r, List.getElem?_map] at h1
      rw [List.getElem?_map] at hx
      cases z : kvs[i]? with
      | none => rw [z] at hx; cases hx
      | some p =>
        rw [z] at hx h1
        cases hx
        injection h1 with h1
        rw [← h1]
    subst hxe
    cases z : S1 q with
    | some u =>
      have := R _ _ z
      rw [hq] at this
      cases this
      exact ⟨S1, .refl R, rp_key z⟩
    | none =>
      refine ⟨upd S1 q (.tup (k.map kV)), ⟨Ex.refl _, Ex.new z, fun a u h => ?_, fun a u h h' => ?_⟩, rp_key upd_same⟩
      · by_cases ha : a = q
        · subst ha; rw [upd_same] at h; cases h; exact hq
        · rw [upd_ne ha] at h; exact R _ _ h
      · by_cases ha : a = q
        · subst ha; exact .inr ⟨_, hq⟩
        · rw [upd_ne ha, h'] at h; cases h
  stop := fun H e => ⟨e _ _ hp, by rw [List.length_map, pt_len r]; exact Nat.le_refl _⟩
theorem pi_keysZ (B : Base X.K) (hN : X.N[i]? = some n) (hv : Vis X.env.scope n) (hd : (n == ("__debug__" : Str)) = false) (hcd : (n == ("__classdict__" : Str)) = false) (hi : ρ[i]? = some (some (.d (.dict (dOfT kvs))))) :
    PI X tg (.Name n pn) (fun σ H R => rLi B ρ (kvs.map fun q => .tuple (q.1.map keyD)) σ H R ∧ Zk i σ H) :=
  (pi_keys (pe_var hN hv hd hcd)).imp fun σ H R ⟨⟨S, Rl, q⟩, d, o, ws, h1, h2⟩ => by
    obtain ⟨v, g1, g2⟩ := Rl.get hi
    rw [h1] at g1
    cases g1
    obtain ⟨a, ws', e, hr, pt⟩ := g2.dictT
    cases e
    have hS : S d = some (.frz o (.dT ws)) ∧ ws' = ws := by
      rcases hr with hr | ⟨o', hr⟩
      · have := Rl.sub _ _ hr
        rw [h2] at this
        cases this
      · have := Rl.sub _ _ hr
        rw [h2] at this
        cases this
        exact ⟨hr, rfl⟩
    obtain ⟨hS, rfl⟩ := hS
    exact ⟨.ref d, h1, d, o, rfl, .inr ⟨_, h2, q (Itkt d o _) H S (.refl Rl.sub) (src_keys hS pt)⟩⟩
def kE (K : En) : En := { nx := K.nx, rt := fun o => K.rt o ∧ ∃ x, o = .k x, bk := K.bk, ct := K.ct }
theorem ds_forT' {α : Type} (i : Nat) (L : List α) (E : α → PyData) (js : List Nat) (Inv : List α → Rho → Prop) (hp : PassesOwn (model X.prog X.w) X.A X.env X.xe) (hc : X.calm = true) (hf : ∀ x, foldedSetIterable (.Name n pn) X.env x = pure x)
    (hN : X.N[i]? = some n) (hv : Vis X.env.scope n) (hdb : (n == ("__debug__" : Str)) = false) (hcd : (n == ("__classdict__" : Str)) = false) (hi : ρ[i]? = some (some (.d (.dict (dOfT kvs))))) (hk : (kvs.map fun q => PyData.tuple (q.1.map keyD)) = L.map E)
    (h0 : Inv [] (wipeR ρ js))
    (hs : ∀ pre a post ρ', L = pre ++ a :: post → Inv pre ρ' → ∃ ρ'' js', DG X tg (E a) ρ' ρ'' js' ∧ DSs X W body ρ'' { nx := fun r => Inv (pre ++ [a]) (wipeR r js), ct := fun r => Inv (pre ++ [a]) (wipeR r js), bk := K.nx, rt := fun o => K.rt o ∧ ∃ x, o = .k x })
    (hd : ∀ ρ', Inv L ρ' → K.nx ρ') : DS X W (.For tg (.Name n pn) body [] pos) ρ K := fun B => ⟨fun pins s σ H D I ⟨⟨S, R⟩, A⟩ => by
  have run : PS X (.For tg (.Name n pn) body [] pos) (fun D σ H => ∃ B : Base X.K, rS B W ρ (kE K) D σ H ∧ Zk i σ H) := ⟨fun pins s σ H D I ⟨B, q, z⟩ =>
    ((ps_for hp hc (pi_keysZ B hN hv hdb hcd hi) pg_u (pss_u (W := W)) hf).imp (t' := fun D σ H => rS B W ρ (kE K) D σ H ∧ Zk i σ H) fun D σ H ⟨q, z⟩ => ⟨by rw [hk]; exact rd_for (K := kE K) B L E js Inv h0 hs hd D σ H q, z⟩).run pins s σ H D I ⟨q, z⟩⟩
  obtain ⟨v, g1, g2⟩ := R.get hi
  obtain ⟨d, ws, rfl, hr, pt⟩ := g2.dictT
  rcases hr with hr | ⟨o, hr⟩
  · have hH := R.sub _ _ hr
    refine (ps_lock run).run pins s σ H D I ⟨d, .dT ws, hH, True.intro, fun od => ?_⟩
    have hu : LkP ws od (.dT ws) (.frz od (.dT ws)) := .inl ⟨rfl, rfl⟩
    have bH : B.H d = none ∨ B.H d = some (.dT ws) := by
      cases q : B.H d with
      | none => exact .inl rfl
      | some w =>
        have := R.exH _ _ q
        rw [hH] at this
        cases this
        exact .inr rfl
    have tB := Tn.mk (v := HO.frz od (.dT ws)) bH
    have tS := Tn.mk (v := HO.frz od (.dT ws)) (F := S) (.inr hr)
    have tH := Tn.upd (v := HO.frz od (.dT ws)) hH
    have R' : Rel (κ := X.K) ⟨tn d (.frz od (.dT ws)) S, tn d (.frz od (.dT ws)) B.H⟩ ρ σ (upd H d (.frz od (.dT ws))) (tn d (.frz od (.dT ws)) S) := R.rebase.tn tS tB tS tH hu hr
    have hv' : tn d (.frz od (.dT ws)) S d = some (.frz od (.dT ws)) := by
      rcases tS.2 with ⟨z, _⟩ | ⟨_, z⟩
      · rw [hr] at z; cases z
      · exact z
    have back : ∀ {ρ' σ' H' S''}, Rel (κ := X.K) ⟨tn d (.frz od (.dT ws)) S, tn d (.frz od (.dT ws)) B.H⟩ ρ' σ' H' S'' → H' d = some (.frz od (.dT ws)) ∧ Rel B ρ' σ' (upd H' d (.dT ws)) (upd S'' d (.dT ws)) := fun {ρ' σ' H' S''} R2 => by
      have z1 := R2.exS _ _ hv'
      have z2 := R2.sub _ _ z1
      have R3 : Rel (κ := X.K) ⟨S, B.H⟩ ρ' σ' (upd H' d (.dT ws)) (upd S'' d (.dT ws)) := R2.tn tS.symm tB.symm (Tn.upd z1) (Tn.upd z2) hu.symm z1
      exact ⟨z2, R3.unbase R.exS R.nw⟩
    refine ⟨⟨_, _⟩, ⟨⟨_, R'⟩, ?_⟩, d, od, ws, g1, upd_same⟩
    refine ⟨fun ρ' σ' H' S'' R2 h => ⟨(back R2).1, A.nx _ _ _ _ (back R2).2 h⟩, fun ρ' σ' H' S'' R2 h => ⟨(back R2).1, A.bk _ _ _ _ (back R2).2 h⟩, fun ρ' σ' H' S'' R2 h => ⟨(back R2).1, A.ct _ _ _ _ (back R2).2 h⟩, fun o2 v2 H' q z => ?_, fun C _ _ _ _ h => h.elim⟩
    obtain ⟨z, x, rfl⟩ := z
    obtain ⟨S2, t, r⟩ := q
    have z1 := t.s _ _ hv'
    have z2 := t.sub _ _ z1
    have t2 : Step S B.H (upd S2 d (.dT ws)) (upd H' d (.dT ws)) := t.tn tS.symm tB.symm (Tn.upd z1) (Tn.upd z2) hu.symm z1
    exact ⟨z2, A.rt (.k x) v2 _ ⟨_, t2.unbase R.exS R.nw, r.lq ((Tn.upd z1).le hu.symm)⟩ z⟩
  · exact run.run pins s σ H D I ⟨B, ⟨⟨S, R⟩, ⟨A.nx, A.bk, A.ct, fun o v H q z => A.rt o v H q z.1, fun _ _ _ _ _ h => h.elim⟩⟩, d, o, ws, g1, R.sub _ _ hr⟩⟩
theorem df_lcT {α : Type} {scope : Scope} (i : Nat) (own : List (Str × Nat)) (L : List α) (E : α → PyData) (f : α → Bool) (g : α → PyData) (ρt : α → Rho)
    (hi : ρ[i]? = some (some (.d (.dict (dOfT kvs))))) (hk : (kvs.map fun q => PyData.tuple (q.1.map keyD)) = L.map E) (hl : L.length ≤ 16000000)
    (hg : ∀ a, a ∈ L → Blk X scope fun X' => DG X' tg (E a) (wipeR ρ (own.map (·.2))) (ρt a) (own.map (·.2)))
    (ht : ∀ a, a ∈ L → Blk X scope fun X' => ∀ B : Base X'.K, PTs X' ifs (rB B (ρt a) (f a)))
    (he : ∀ a, a ∈ L → f a = true → Blk X scope fun X' => DK X' elt (ρt a) (g a))
    (hN1 : X.N[i]? = some n := by rfl) (hv : Vis X.env.scope n := by first | exact Or.inl rfl | exact Or.inr (Or.inl rfl) | exact Or.inr (Or.inr rfl)) (hdb : (n == ("__debug__" : Str)) = false := by decide) (hcd : (n == ("__classdict__" : Str)) = false := by decide)
    (ok : BlkOk X.N X.env.scope scope own := by (refine blkOk_by ?_; dsimp only [bX, cxOf, envOfC]; decide +kernel)) (hc : X.calm = true := by rfl) (hN : X.N.Nodup := by assumption) (hfs : ∀ x, foldedSetIterable (.Name n pn) X.env x = pure x := by intro _; rfl) :
    DF X (.ListComp elt [⟨tg, .Name n pn, ifs, 0⟩] scope pos) ρ ((L.filter f).map g) := fun B => ⟨fun pins s σ H Q I ⟨S, R, q⟩ => by
  have run : PE X (.ListComp elt [⟨tg, .Name n pn, ifs, 0⟩] scope pos) (fun σ H Q => ∃ B : Base X.K, rF B ρ ((L.filter f).map g) σ H Q ∧ Zk i σ H) := ⟨fun pins s σ H Q I ⟨B, q, z⟩ =>
    ((pe_lc (te := rLe (κ := X.K) L f g ρt) (tt := rLt (κ := X.K) L f ρt) (g := rLg (κ := X.K) L E ρ ρt (own.map (·.2))) hc hN (pi_keysZ B hN1 hv hdb hcd hi) ok
      (fun s H C cl fp => ⟨fun pins s' σ H v u Q I r ⟨a, ha, B, S, R, rp, q⟩ => (hg a ha s _ C cl fp B).run pins s' σ H v u Q I r ⟨S, R, rp, q⟩⟩)
      (fun s H C cl fp => ⟨fun pins s' σ H Q I ⟨a, ha, B, q⟩ => (ht a ha s _ C cl fp B).run pins s' σ H Q I q⟩)
      (fun s H C cl fp => ⟨fun pins s' σ H Q I ⟨a, ha, hfa, B, q⟩ => (he a ha hfa s _ C cl fp B).run pins s' σ H Q I q⟩) hfs).imp (t' := fun σ H Q => rF B ρ ((L.filter f).map g) σ H Q ∧ Zk i σ H) fun σ H Q ⟨q, z⟩ => ⟨by rw [hk]; exact rd_lc B L E f g ρt hl σ H Q q, z⟩).run pins s σ H Q I ⟨q, z⟩⟩
  obtain ⟨v, g1, g2⟩ := R.get hi
  obtain ⟨d, ws, rfl, hr, pt⟩ := g2.dictT
  rcases hr with hr | ⟨o, hr⟩
  · have hH := R.sub _ _ hr
    refine (pe_lock run).run pins s σ H Q I ⟨d, .dT ws, hH, True.intro, fun od => ?_⟩
    have hu : LkP ws od (.dT ws) (.frz od (.dT ws)) := .inl ⟨rfl, rfl⟩
    have bH : B.H d = none ∨ B.H d = some (.dT ws) := by
      cases q : B.H d with
      | none => exact .inl rfl
      | some w =>
        have := R.exH _ _ q
        rw [hH] at this
        cases this
        exact .inr rfl
    have tB := Tn.mk (v := HO.frz od (.dT ws)) bH
    have tS := Tn.mk (v := HO.frz od (.dT ws)) (F := S) (.inr hr)
    have tH := Tn.upd (v := HO.frz od (.dT ws)) hH
    have R' : Rel (κ := X.K) ⟨tn d (.frz od (.dT ws)) S, tn d (.frz od (.dT ws)) B.H⟩ ρ σ (upd H d (.frz od (.dT ws))) (tn d (.frz od (.dT ws)) S) := R.rebase.tn tS tB tS tH hu hr
    have hv' : tn d (.frz od (.dT ws)) S d = some (.frz od (.dT ws)) := by
      rcases tS.2 with ⟨z, _⟩ | ⟨_, z⟩
      · rw [hr] at z; cases z
      · exact z
    refine ⟨⟨_, _⟩, ⟨_, R', fun p vs H2 S2 t hp hs hvl r => ?_⟩, d, od, ws, g1, upd_same⟩
    have z1 := t.s _ _ hv'
    have z2 := t.sub _ _ z1
    have t2 : Step S H (upd S2 d (.dT ws)) (upd H2 d (.dT ws)) := t.tn tS.symm tH.symm (Tn.upd z1) (Tn.upd z2) hu.symm z1
    have hpd : p ≠ d := fun z => by subst z; rw [hs] at z1; cases z1
    refine ⟨z2, q p vs _ _ t2 ?_ ?_ ?_ (r.lq ((Tn.upd z1).le hu.symm))⟩
    · rw [upd_ne hpd] at hp; exact hp
    · rw [upd_ne hpd]; exact hs
    · rw [upd_ne hpd]; exact hvl
  · exact run.run pins s σ H Q I ⟨B, ⟨S, R, q⟩, d, o, ws, g1, R.sub _ _ hr⟩⟩
end
end Dt

namespace Dt
open PySem PySem.Spec PyProof.Rows L2
section
variable {X : Cx} {W : WX} {e : Expr} {ρ : Rho} {pos p : Pos} {n : Str} {K : En} {kvs : List (List Key × PyData)} {xs ys : List PyData}
/-- a key's hash -/
def hashT (k : List Key) : Int := reduceHash (Builtin.Tuple.tupleHashOf (k.map fun a => match a with | .inl i => hashInt i | .inr _ => 0))
def intKey (k : List Key) : Bool := k.all fun a => match a with | .inl _ => true | .inr _ => false
theorem hashT_eq (P : Program) (w : World) : ∀ k : List Key, intKey k = true → (tupleKind (mixKind P w)).hash k = hashT k := fun k hk => by
  show reduceHash (Builtin.Tuple.tupleHashOf (k.map (keyH w))) = reduceHash (Builtin.Tuple.tupleHashOf (k.map fun a => match a with | .inl i => hashInt i | .inr _ => 0))
  congr 2
  apply List.map_congr_left
  intro a ha
  have := List.all_eq_true.mp hk a ha
  cases a with
  | inl i => rfl
  | inr x => cases this
def rDictDT (K : PySem.W.Frag) : List V → Hp → VK → Prop := fun xs H Q => ∃ (a : Addr) (kvs : List (List Key × V)), xs = [.ref a] ∧ Rd H a (.dT kvs) ∧ (∀ q ∈ kvs, intKey q.1 = true) ∧ (kvs.map fun q => hashT q.1).Nodup ∧ ∀ p, H p = none → Q (.ref p) (upd H p (.dT kvs))
/-- dict(d): a copy -/
theorem call_dictDT (hu : X.A.units + 4 < cLine) : CallR X (.type "dict") (rDictDT X.K) := by
  intro pins s σ H xs us Q I r h
  obtain ⟨a, kvs, rfl, hrd, hik, hap, q⟩ := h
  rw [Vals.ref1 r]
  obtain ⟨z, hd, xs, rel, dd⟩ := dt_rd I.hok hrd
  have hlen : kvs.length = xs.length := Paired.length rel
  have hkeys : xs.map (·.1) = kvs.map (·.1) := by
    have key : ∀ {kvs : List (List Key × V)} {xs : List (List Key × Addr × Value)}, KT H kvs xs → xs.map (·.1) = kvs.map (·.1) := by
      intro kvs xs r
      unfold KT at r
      induction r with
      | nil => rfl
      | cons h t ih => rw [List.map_cons, List.map_cons, ih, h.1]
    exact key rel
  have hn : (xs.map (·.1)).Nodup := by
    obtain ⟨_, _, _, _, _, _, _, _, hn⟩ := id dd
    exact hn
  have hap' : (xs.map fun x => (tupleKind (mixKind X.prog X.w)).hash x.1).Nodup := by
    have e1 : (xs.map fun x => (tupleKind (mixKind X.prog X.w)).hash x.1) = (xs.map (·.1)).map fun k => (tupleKind (mixKind X.prog X.w)).hash k := by rw [List.map_map]; rfl
    rw [e1, hkeys, List.map_map]
    have e2 : (kvs.map ((fun k => (tupleKind (mixKind X.prog X.w)).hash k) ∘ fun q => q.1)) = kvs.map fun q => hashT q.1 := List.map_congr_left fun q hq => hashT_eq _ _ _ (hik q hq)
    rw [e2]
    exact hap
  refine callType_codes (Q₁ := fun obj s₁ => obj = .ref s.heap.objs.size ∧ s₁ = { s with heap := s.heap.push { cls := .type "dict", data := .dict #[] } }) F.kt_called_dict (F.kt_typeCall_dict_1 _) F.entry_dict_init (kt_code_dict_new _ ⟨rfl, rfl⟩) ?_
  rintro obj s₁ ⟨rfl, rfl⟩
  have hnew : (s.heap.push { cls := .type "dict", data := .dict #[] }).DictOfH (tupleKind (mixKind X.prog X.w)) s.heap.objs.size [] := Heap.DictOfH.new s.heap
  have ho' : (s.heap.push { cls := .type "dict", data := .dict #[] }).DictOfH (tupleKind (mixKind X.prog X.w)) a xs := by
    obtain ⟨o, es, ep, ho, hx, hdat, he, his, hn⟩ := dd
    exact ⟨o, es, ep, Heap.get?_push_of_some _ ho, hx, hdat, he, fun x hx => tupleKind_stays.stays (fun b o _ _ e _ => Heap.get?_push_of_some _ e) (his x hx), hn⟩
  have hdo : s.heap.objs.size ≠ a := by
    obtain ⟨_, _, _, hg, _⟩ := dd
    exact fun e => absurd (Heap.lt_size hg) (by rw [e]; exact Nat.lt_irrefl _)
  have hty : ∀ x ∈ xs, Shared.TypeIs { s with heap := s.heap.push { cls := .type "dict", data := .dict #[] } } (.ref x.2.1) "tuple" := keyed_apart tupleKind_stays ho'
  refine ⟨hnew.typeIs, F.args_dict_init_2 _ _, ?_⟩
  unfold Builtin.«dict.__init__»
  refine wpAny_bind ?_
  unfold Builtin.Dict.selfAndRest
  refine wpAny_bind (wpAny_notOrdered_dict hnew.typeIs ?_)
  show wpAny _ _ (pure (s.heap.objs.size, [Value.ref a])) _ _ _
  refine wpAny_pure ?_
  show wpAny _ _ (Builtin.Dict.updateFrom "dict.__init__" s.heap.objs.size (.ref a) [] .none) _ _ _
  refine updateFrom_dictH (A := X.A.in1) (knd := tupleKind (mixKind X.prog X.w)) .none (show X.A.in1.in1.units < cLine by show X.A.units + 1 + 1 < cLine; omega) hdo hd hnew ho' (.inr ⟨hty, hap'⟩) (by show 0 + xs.length ≤ sizeLine; omega) fun h' hd' _ hs' => ?_
  rw [storedAllH_nil_of_nodup xs hn] at hd'
  have hm : (s.heap.objs.size == sysModules) = false := beq_eq_false_iff_ne.mpr (Nat.ne_of_gt I.big)
  have hfr := I.hok.fresh (Nat.le_refl s.heap.objs.size)
  obtain ⟨o, es, ep, h1, h2, h3, h4, _, h5⟩ := hd'
  have rel' : KT (upd H s.heap.objs.size (.dT kvs)) kvs xs := rel.keeps fun b ys hb => by
    rw [upd_ne (ne_of_none hb hfr)]
    exact hb
  exact ⟨rfl, .ref s.heap.objs.size, upd H s.heap.objs.size (.dT kvs), I.laid (t' := s.toks) (fun b u e => (hs'.2 b (Nat.ne_of_lt (Heap.lt_size e))).trans (Heap.get?_push_of_some _ e)) (Nat.le_refl _) ⟨z, hm, xs, rel', o, es, ep, h1, h2, h3, h4, h5⟩, rfl, q _ hfr⟩
/-- dict(d), kept -/
theorem dictD {r : Nat} (hr : Room r X.A) (ha : DM X e ρ kvs) (hk : ∀ q ∈ kvs, intKey q.1 = true) (hh : (kvs.map fun q => hashT q.1).Nodup) (mn : X.mg n = none) (g : X.mg n = none → Blt X n (.type "dict") := by exact fun h => blt h) (s : Arg1 X e [] pos := by exact a1) : DT X (.Call (.Name n p) [e] [] pos) ρ kvs := fun B =>
  (pe_callTy (call_dictDT (by have := hr.units; omega)) (g mn).gl (g mn).mg (g mn).bt (pa_cons (ha B) pa_nil s.st) (g mn).nn (g mn).nd s.st s.pl).imp fun σ H Q ⟨S, R, q⟩ => ⟨S, R, fun a ws H1 S1 t1 hrd pt => by
    have e := pt_at pt
    refine ⟨a, ws, rfl, hrd, fun w hw => ?_, ?_, fun pp hp => ?_⟩
    · have : w.1 ∈ ws.map (·.1) := List.mem_map.mpr ⟨w, hw, rfl⟩
      rw [e] at this
      obtain ⟨q, hq, h2⟩ := List.mem_map.mp this
      rw [← h2]
      exact hk q hq
    · have e2 : (ws.map fun q => hashT q.1) = (ws.map (·.1)).map hashT := by rw [List.map_map]; rfl
      rw [e2, e, List.map_map]
      exact hh
    · exact q pp _ _ S1 (t1.trans (.heap t1.sub (Ex.new hp))) (t1.h.back hp) (t1.sub.back hp) upd_same pt⟩
/-- own.extend(e) -/
theorem ext (i : Nat) {pn ap cp : Pos} (he : DL X e ρ ys) (hz : xs.length + ys.length ≤ sizeLine) (h : K.nx (ρ.set i (some (.l (xs ++ ys))))) (hi : ρ[i]? = some (some (.l xs)) := by rfl) (hN : X.N[i]? = some n := by rfl) (hv : Vis X.env.scope n := by first | exact Or.inl rfl | exact Or.inr (Or.inl rfl) | exact Or.inr (Or.inr rfl)) (hd : (n == ("__debug__" : Str)) = false := by decide) (hcd : (n == ("__classdict__" : Str)) = false := by decide)
    (hbase : attributeBase (.Name n pn) "extend" X.env (eval (.Name n pn) X.env) = eval (.Name n pn) X.env := by rfl)
    (hfew : ((backTo cp (starEach (e :: []) X.env)).all (fun x => !x.1) && (backToKw cp (keywordEach [] X.env)).all (fun x => x.1.isSome)
      && decide ((e :: []).length + ([] : List Keyword).length + (if ([] : List Keyword).isEmpty then 0 else 1) < 30)) = true := by rfl)
    (hline : (ap.endLine == cp.line) = true := by rfl) (g : Arg1 X e [] cp := by exact a1) (hs : swapsWith (.Call (.Attribute (.Name n pn) "extend" ap) [e] [] cp) none pos.line X.env = pure false := by rfl) :
    DS X W (.Expr (.Call (.Attribute (.Name n pn) "extend" ap) [e] [] cp) pos) ρ K := fun B =>
  (ps_expr (pe_bm PySem.F.plainAttrs_list PySem.F.slot_list_extend PySem.F.type_list_extend mt_extend (pe_var hN hv hd hcd) (pa_cons (he B) pa_nil g.st) hbase hfew hline g.st g.pl) hs).imp fun D σ H ⟨⟨S, R⟩, A⟩ => by
    obtain ⟨v, h1, p, vs, rfl, h2, h3, h4, h5⟩ := R.sl i _ hi
    refine ⟨_, h1, .inl ⟨rfl, vs, .of h4⟩, S, R, fun b zs H2 S2 t hb r1 => ⟨p, b, vs, zs, rfl, rfl, t.h _ _ h4, hb, by rw [h5.length, r1.length]; exact hz, ?_⟩⟩
    have R1 := R.step t
    have hs2 : S2 p = none := by
      obtain ⟨v', k1, p', vs', k2, k3, k4, k5, k6⟩ := R1.sl i _ hi
      rw [h1] at k1; cases k1; cases k2
      exact k4
    exact A.nx _ _ _ S2 (R1.mutO hi h1 rfl (s' := .l (xs ++ ys)) (fun q hq => .inl hq) ⟨p, _, rfl, h2, hs2, upd_same, (h5.mono t.s).append r1⟩) h
variable {tg elt : Expr} {body : List Stmt} {pn : Pos}
/-- for .. in a dict of tuples -/
theorem ds_forT {α : Type} (i : Nat) (L : List α) (E : α → PyData) (js : List Nat) (Inv : List α → Rho → Prop) (hp : PassesOwn (model X.prog X.w) X.A X.env X.xe) (hc : X.calm = true)
    (hk : (kvs.map fun q => PyData.tuple (q.1.map keyD)) = L.map E) (h0 : Inv [] (wipeR ρ js))
    (hs : ∀ pre a post ρ', L = pre ++ a :: post → Inv pre ρ' → ∃ ρ'' js', DG X tg (E a) ρ' ρ'' js' ∧ DSs X W body ρ'' { nx := fun r => Inv (pre ++ [a]) (wipeR r js), ct := fun r => Inv (pre ++ [a]) (wipeR r js), bk := K.nx, rt := fun o => K.rt o ∧ ∃ x, o = .k x })
    (hd : ∀ ρ', Inv L ρ' → K.nx ρ') (hi : ρ[i]? = some (some (.d (.dict (dOfT kvs)))) := by rfl)
    (hN : X.N[i]? = some n := by rfl) (hv : Vis X.env.scope n := by first | exact Or.inl rfl | exact Or.inr (Or.inl rfl) | exact Or.inr (Or.inr rfl)) (hdb : (n == ("__debug__" : Str)) = false := by decide) (hcd : (n == ("__classdict__" : Str)) = false := by decide)
    (hf : ∀ x, foldedSetIterable (.Name n pn) X.env x = pure x := by intro _; rfl) : DS X W (.For tg (.Name n pn) body [] pos) ρ K := ds_forT' i L E js Inv hp hc hf hN hv hdb hcd hi hk h0 hs hd
theorem lcT {α : Type} {scope : Scope} (i : Nat) (own : List (Str × Nat)) (L : List α) (E : α → PyData) (g : α → PyData) (ρt : α → Rho) (hk : (kvs.map fun q => PyData.tuple (q.1.map keyD)) = L.map E) (hl : L.length ≤ 16000000)
    (hg : ∀ a, a ∈ L → Blk X scope fun X' => DG X' tg (E a) (wipeR ρ (own.map (·.2))) (ρt a) (own.map (·.2)))
    (he : ∀ a, a ∈ L → Blk X scope fun X' => DK X' elt (ρt a) (g a)) (hi : ρ[i]? = some (some (.d (.dict (dOfT kvs)))) := by rfl)
    (hN1 : X.N[i]? = some n := by rfl) (hv : Vis X.env.scope n := by first | exact Or.inl rfl | exact Or.inr (Or.inl rfl) | exact Or.inr (Or.inr rfl)) (hdb : (n == ("__debug__" : Str)) = false := by decide) (hcd : (n == ("__classdict__" : Str)) = false := by decide)
    (ok : BlkOk X.N X.env.scope scope own := by (refine blkOk_by ?_; dsimp only [bX, cxOf, envOfC]; decide +kernel)) (hc : X.calm = true := by rfl) (hN : X.N.Nodup := by assumption) (hfs : ∀ x, foldedSetIterable (.Name n pn) X.env x = pure x := by intro _; rfl) :
    DF X (.ListComp elt [⟨tg, .Name n pn, [], 0⟩] scope pos) ρ (L.map g) := by
  have := df_lcT (pos := pos) i own L E (fun _ => true) g ρt hi hk hl hg (fun a ha s H C cl fp B => ⟨fun pins s σ H Q I ⟨S, R, q⟩ => wpAny_tests_nil ⟨H, I, q H (Ex.refl _)⟩⟩) (fun a ha _ => he a ha) hN1 hv hdb hcd ok hc hN hfs
  rw [List.filter_eq_self.mpr (fun _ _ => rfl)] at this
  exact this
/-- a, b = x, y with names of the def's own -/
theorem setPar (i j : Nat) {n2 : Str} {a b : Expr} {x y : PyData} {px py pt pt2 : Pos} {kt k2 : Nat} (ha : DAk X [a, b] ρ [x, y]) (h : K.nx ((ρ.set i (some (.d x))).set j (some (.d y)))) (hc : X.calm = true := by rfl) (hN : X.N.Nodup := by assumption) (hi : X.N[i]? = some n := by rfl) (hj : X.N[j]? = some n2 := by rfl) (hij : i ≠ j := by decide)
    (hx : X.env.scope.names.lookup n = some .local := by rfl) (hy : X.env.scope.names.lookup n2 = some .local := by rfl)
    (hw : swappedStores [.Tuple [.Name n px, .Name n2 py] kt pt] (.Tuple [a, b] k2 pt2) X.env = pure (some [n, n2]) := by rfl)
    (hs : swapsWithSole [.Tuple [.Name n px, .Name n2 py] kt pt] (.Tuple [a, b] k2 pt2) pos.line X.env = pure false := by rfl) :
    DS X W (.Assign [.Tuple [.Name n px, .Name n2 py] kt pt] (.Tuple [a, b] k2 pt2) pos) ρ K := fun B =>
  (ps_par hc hN hi hj hij hx hy (ha B) hw hs).imp fun D σ H ⟨⟨S, R⟩, A⟩ => ⟨S, R, fun vs H2 S2 t r => by
    cases r with
    | cons r1 r2 =>
      cases r2 with
      | cons r2 r3 =>
        cases r3
        exact ⟨_, _, rfl, A.nx _ _ _ S2 (((R.step t).setD i r1).setD j r2) h⟩⟩
end
end Dt

/-! Dt: own.append(other.pop()). -/
namespace Dt
open PySem PySem.Spec PyProof.Rows L2
section
variable {X : Cx} {W : WX} {ρ : Rho} {pos : Pos} {n m : Str} {K : En} {xs ys : List PyData} {y : PyData}
theorem RpA.snoc {κ : PySem.W.Frag} {S : Hp} {vs : List V} {ys : List PyData} {y : PyData} (h : RpA κ S vs (ys ++ [y])) : ∃ ws w, vs = ws ++ [w] ∧ RpA κ S ws ys ∧ Rp κ S w y := by
  have h1 := h.take ys.length
  have h2 := h.drop ys.length
  rw [List.take_left] at h1
  rw [List.drop_left] at h2
  obtain ⟨w, hw, r⟩ := h2.one1
  exact ⟨vs.take ys.length, w, by rw [← hw, List.take_append_drop], h1, r⟩
theorem appPop (i j : Nat) {pn ap cp pm pp cp2 : Pos} (hi : ρ[i]? = some (some (.l xs))) (hj : ρ[j]? = some (some (.l (ys ++ [y])))) (hz : xs.length < sizeLine) (h : K.nx ((ρ.set j (some (.l ys))).set i (some (.l (xs ++ [y]))))) (hij : i ≠ j := by decide)
    (hN : X.N[i]? = some n := by rfl) (hv : Vis X.env.scope n := by first | exact Or.inl rfl | exact Or.inr (Or.inl rfl) | exact Or.inr (Or.inr rfl)) (hd : (n == ("__debug__" : Str)) = false := by decide) (hcd : (n == ("__classdict__" : Str)) = false := by decide)
    (hN2 : X.N[j]? = some m := by rfl) (hv2 : Vis X.env.scope m := by first | exact Or.inl rfl | exact Or.inr (Or.inl rfl) | exact Or.inr (Or.inr rfl)) (hd2 : (m == ("__debug__" : Str)) = false := by decide) (hcd2 : (m == ("__classdict__" : Str)) = false := by decide)
    (hbase : attributeBase (.Name n pn) "append" X.env (eval (.Name n pn) X.env) = eval (.Name n pn) X.env := by rfl)
    (hbase2 : attributeBase (.Name m pm) "pop" X.env (eval (.Name m pm) X.env) = eval (.Name m pm) X.env := by rfl)
    (hfew : ((backTo cp (starEach ((.Call (.Attribute (.Name m pm) "pop" pp) [] [] cp2) :: []) X.env)).all (fun x => !x.1) && (backToKw cp (keywordEach [] X.env)).all (fun x => x.1.isSome)
      && decide (((.Call (.Attribute (.Name m pm) "pop" pp) [] [] cp2 : Expr) :: []).length + ([] : List Keyword).length + (if ([] : List Keyword).isEmpty then 0 else 1) < 30)) = true := by rfl)
    (hline : (ap.endLine == cp.line) = true := by rfl) (hline2 : (pp.endLine == cp2.line) = true := by rfl) (g : Arg1 X (.Call (.Attribute (.Name m pm) "pop" pp) [] [] cp2) [] cp := by exact a1) (hs : swapsWith (.Call (.Attribute (.Name n pn) "append" ap) [.Call (.Attribute (.Name m pm) "pop" pp) [] [] cp2] [] cp) none pos.line X.env = pure false := by rfl) :
    DS X W (.Expr (.Call (.Attribute (.Name n pn) "append" ap) [.Call (.Attribute (.Name m pm) "pop" pp) [] [] cp2] [] cp) pos) ρ K := fun B =>
  (ps_expr (pe_bm PySem.F.plainAttrs_list PySem.F.slot_list_append PySem.F.type_list_append mt_append (pe_var hN hv hd hcd) (pa_cons (pe_bm0 PySem.F.plainAttrs_list PySem.F.slot_list_pop PySem.F.type_list_pop mt_pop (pe_var hN2 hv2 hd2 hcd2) hbase2 hline2) pa_nil g.st) hbase hfew hline g.st g.pl) hs).imp fun D σ H ⟨⟨S, R⟩, A⟩ => by
    obtain ⟨v, h1, p, vs, rfl, h2, h3, h4, h5⟩ := R.sl i _ hi
    obtain ⟨v', k1, q, us, rfl, k2, k3, k4, k5⟩ := R.sl j _ hj
    obtain ⟨ws, w, rfl, r1, r2⟩ := k5.snoc
    have hpq : p ≠ q := fun e => hij (R.sep i j _ _ _ _ p hi hj h1 k1 rfl (by show V.ref q = V.ref p; rw [e]))
    have R1 := R.mutO hj k1 rfl (s' := .l ys) (o := .lst ws) (fun q hq => .inl hq) ⟨q, ws, rfl, k2, k3, upd_same, r1⟩
    have hi1 : (ρ.set j (some (.l ys)))[i]? = some (some (.l xs)) := by rw [List.getElem?_set_ne (Ne.symm hij)]; exact hi
    have R2 := R1.mutO hi1 h1 rfl (s' := .l (xs ++ [y])) (o := .lst (vs ++ [w])) (fun q hq => .inl hq) ⟨p, _, rfl, h2, h3, upd_same, h5.append (.one r2)⟩
    refine ⟨_, h1, .inl ⟨rfl, vs, .of h4⟩, _, k1, .inl ⟨rfl, _, .of k4⟩, q, ws ++ [w], w, rfl, rfl, k4, by simp, ?_⟩
    rw [List.dropLast_concat]
    exact ⟨p, vs, w, rfl, rfl, by rw [upd_ne hpq]; exact h4, by rw [h5.length]; exact hz, A.nx _ _ _ S R2 h⟩
end
end Dt


namespace Br
open PySem PySem.Spec PyProof.Rows L2 Dt
/-! ### the mathematics: rules -/
/-- a thing is a whole number from lo to hi -/
def among (x : PyData) (lo hi : Int) : Bool := match x with
  | .int i => decide (lo ≤ i) && decide (i ≤ hi)
  | _ => false
theorem among_int {x : PyData} {lo hi : Int} (h : among x lo hi = true) : ∃ i, x = .int i ∧ lo ≤ i ∧ i ≤ hi := by
  cases x with
  | int i =>
    have h : (decide (lo ≤ i) && decide (i ≤ hi)) = true := h
    simp only [Bool.and_eq_true, decide_eq_true_eq] at h
    exact ⟨i, rfl, h⟩
  | _ => cases h
theorem among_nat {x : PyData} {lo : Nat} {hi : Int} (h : among x lo hi = true) : ∃ i : Nat, x = nI i ∧ lo ≤ i ∧ (i : Int) ≤ hi := by
  obtain ⟨i, e, h1, h2⟩ := among_int h
  exact ⟨i.toNat, by rw [e]; show PyData.int _ = PyData.int _; congr 1; omega, by omega, by omega⟩
theorem among_mk {i lo hi : Nat} (h1 : lo ≤ i) (h2 : i ≤ hi) : among (nI i) lo hi = true := by
  show (decide _ && decide _) = true
  simp only [Bool.and_eq_true, decide_eq_true_eq]
  omega
/-- whether a thing is a rule -/
def isRuleL (a b : PyData) (ts : List PyData) : Bool := match a, b with
  | .int s, .int w => !(decide (16 < s.toNat ^ w.toNat) || !decide (ts.length = s.toNat ^ w.toNat)) && ts.all fun x => among x 0 (s - 1)
  | _, _ => false
def isRuleD : PyData → Bool
  | .tuple [a, b, t] => !(!among a 2 4 || (!among b 1 4 || !isTupD t)) && (match t with | .tuple ts => isRuleL a b ts | _ => false)
  | _ => false
structure Rule where
  s : Nat
  w : Nat
  t : List Nat
structure Rule.ok (R : Rule) : Prop where
  s2 : 2 ≤ R.s
  s4 : R.s ≤ 4
  w1 : 1 ≤ R.w
  w4 : R.w ≤ 4
  few : R.s ^ R.w ≤ 16
  len : R.t.length = R.s ^ R.w
  sg : ∀ x ∈ R.t, x < R.s
abbrev encR (R : Rule) : PyData := .tuple [nI R.s, nI R.w, nT R.t]
theorem isRule_enc {R : Rule} (h : R.ok) : isRuleD (encR R) = true := by
  have h1 : among (nI R.s) 2 4 = true := among_mk h.s2 h.s4
  have h2 : among (nI R.w) 1 4 = true := among_mk h.w1 h.w4
  show (!(!among (nI R.s) 2 4 || (!among (nI R.w) 1 4 || !true)) && isRuleL (nI R.s) (nI R.w) (R.t.map nI)) = true
  rw [h1, h2]
  show (!(decide (16 < ((R.s : Int)).toNat ^ ((R.w : Int)).toNat) || !decide ((R.t.map nI).length = ((R.s : Int)).toNat ^ ((R.w : Int)).toNat)) && (R.t.map nI).all fun x => among x 0 ((R.s : Int) - 1)) = true
  rw [Int.toNat_natCast, Int.toNat_natCast, List.length_map, h.len]
  have : ((R.t.map nI).all fun x => among x 0 ((R.s : Int) - 1)) = true := by
    rw [List.all_eq_true]
    intro x hx
    obtain ⟨q, hq, rfl⟩ := List.mem_map.mp hx
    have := h.sg q hq
    have e : ((R.s : Int) - 1) = ((R.s - 1 : Nat) : Int) := by omega
    rw [e]
    exact among_mk (Nat.zero_le _) (by omega)
  rw [this, decide_eq_false (by have := h.few; omega)]
  simp
/-- what is a rule is the writing of one -/
theorem isRule_dec {x : PyData} (h : isRuleD x = true) : ∃ R : Rule, R.ok ∧ x = encR R := by
  unfold isRuleD at h
  split at h
  · rename_i a b t
    rw [Bool.and_eq_true] at h
    obtain ⟨h1, h2⟩ := h
    have g1 : among a 2 4 = true := by cases q : among a 2 4 <;> simp [q] at h1 ⊢
    have g2 : among b 1 4 = true := by cases q : among b 1 4 <;> simp [q, g1] at h1 ⊢
    obtain ⟨s, rfl, s1, s2⟩ := among_nat (lo := 2) g1
    obtain ⟨w, rfl, w1, w2⟩ := among_nat (lo := 1) g2
    cases t with
    | tuple ts =>
      have h2 : (!(decide (16 < ((s : Int)).toNat ^ ((w : Int)).toNat) || !decide (ts.length = ((s : Int)).toNat ^ ((w : Int)).toNat)) && ts.all fun x => among x 0 ((s : Int) - 1)) = true := h2
      rw [Int.toNat_natCast, Int.toNat_natCast] at h2
      simp only [Bool.and_eq_true, Bool.not_eq_true', Bool.or_eq_false_iff, decide_eq_false_iff_not, Bool.not_eq_false', decide_eq_true_eq, List.all_eq_true] at h2
      obtain ⟨⟨h3, h4⟩, h5⟩ := h2
      have key : ∀ l : List PyData, (∀ x ∈ l, among x 0 ((s : Int) - 1) = true) → ∃ r : List Nat, l = r.map nI ∧ ∀ x ∈ r, x < s := by
        intro l
        induction l with
        | nil => intro _; exact ⟨[], rfl, by simp⟩
        | cons a r ih =>
          intro hl
          obtain ⟨r', e, hr⟩ := ih fun x hx => hl x (List.mem_cons_of_mem _ hx)
          obtain ⟨q, e2, _, q2⟩ := among_nat (lo := 0) (hl a List.mem_cons_self)
          exact ⟨q :: r', by rw [e, e2]; rfl, by
            intro x hx
            rcases List.mem_cons.mp hx with rfl | hx
            · omega
            · exact hr x hx⟩
      obtain ⟨r, e, hr⟩ := key ts h5
      subst e
      rw [List.length_map] at h4
      exact ⟨⟨s, w, r⟩, ⟨s1, by show s ≤ 4; omega, w1, by show w ≤ 4; omega, by show s ^ w ≤ 16; omega, h4, hr⟩, rfl⟩
    | _ => cases h2
  · cases h
/-- the number of a row of cells -/
def num (s : Nat) (cs : List Nat) : Nat := cs.foldl (fun a c => a * s + c) 0
theorem num_snoc (s : Nat) (cs : List Nat) (c : Nat) : num s (cs ++ [c]) = num s cs * s + c := by simp [num]
theorem num_lt {s : Nat} : ∀ (cs : List Nat), (∀ x ∈ cs, x < s) → num s cs < s ^ cs.length := by
  have key : ∀ (cs : List Nat) (a m : Nat), a < s ^ m → (∀ x ∈ cs, x < s) → cs.foldl (fun a c => a * s + c) a < s ^ (m + cs.length) := by
    intro cs
    induction cs with
    | nil => intro a m ha _; simpa using ha
    | cons c r ih =>
      intro a m ha h
      have hc : c < s := h c List.mem_cons_self
      have h1 : a * s + c < s ^ (m + 1) := by
        rw [Nat.pow_succ]
        have : (a + 1) * s ≤ s ^ m * s := Nat.mul_le_mul_right s ha
        rw [Nat.add_mul] at this
        omega
      have := ih (a * s + c) (m + 1) h1 fun x hx => h x (List.mem_cons_of_mem _ hx)
      rw [List.foldl_cons, List.length_cons]
      rw [show m + (r.length + 1) = m + 1 + r.length by omega]
      exact this
  intro cs h
  have := key cs 0 0 (by simp) h
  simpa [num] using this
/-- the row of k cells that has the number n -/
def cells (s : Nat) : Nat → Nat → List Nat
  | 0, _ => []
  | k + 1, n => (n / s ^ k % s) :: cells s k n
theorem cells_len (s : Nat) : ∀ k n, (cells s k n).length = k
  | 0, _ => rfl
  | k + 1, n => by simp [cells, cells_len s k n]
/-- what comes of cells side by side -/
def on (R : Rule) (l : List Nat) : List Nat := (List.range (l.length + 1 - R.w)).map fun p => R.t.getD (num R.s ((l.drop p).take R.w)) 0
/-- a ring's cells and m more -/
def around (r : List Nat) (m : Nat) : List Nat := (List.range (r.length + m)).map fun p => r.getD (p % r.length) 0
def onRing (R : Rule) (r : List Nat) : List Nat := on R (around r (R.w - 1))
/-- whether data is a piece of s signs -/
def pieceD (s : Nat) (x : PyData) : Bool := match x with
  | .list l => l.all fun y => among y 0 ((s : Int) - 1)
  | _ => false
/-- data that is no script -/
def plainD (x : PyData) : Prop := isListD x = true → ∃ l, x = .list l
theorem all_among {s : Nat} {l : List PyData} : (l.all fun y => among y 0 ((s : Int) - 1)) = true → ∃ r : List Nat, l = r.map nI ∧ ∀ x ∈ r, x < s := by
  intro h
  rw [List.all_eq_true] at h
  induction l with
  | nil => exact ⟨[], rfl, by simp⟩
  | cons a r ih =>
    obtain ⟨r', e, hr⟩ := ih fun x hx => h x (List.mem_cons_of_mem _ hx)
    obtain ⟨q, e2, _, q2⟩ := among_nat (lo := 0) (h a List.mem_cons_self)
    exact ⟨q :: r', by rw [e, e2]; rfl, by
      intro x hx
      rcases List.mem_cons.mp hx with rfl | hx
      · omega
      · exact hr x hx⟩
theorem pieceD_nL {s : Nat} {l : List Nat} (h : ∀ x ∈ l, x < s) : pieceD s (nL l) = true := by
  show ((l.map nI).all fun y => among y 0 ((s : Int) - 1)) = true
  rw [List.all_eq_true]
  intro x hx
  obtain ⟨q, hq, rfl⟩ := List.mem_map.mp hx
  have := h q hq
  have e : ((s : Int) - 1) = ((s - 1 : Nat) : Int) := by omega
  rw [e]
  exact among_mk (Nat.zero_le _) (by omega)
theorem on_lt {R : Rule} (h : R.ok) {l : List Nat} (hl : ∀ x ∈ l, x < R.s) : ∀ x ∈ on R l, x < R.s := by
  intro x hx
  obtain ⟨p, hp, rfl⟩ := List.mem_map.mp hx
  rw [List.mem_range] at hp
  have hn : num R.s ((l.drop p).take R.w) < R.t.length := by
    have h1 := num_lt (s := R.s) ((l.drop p).take R.w) fun x hx => hl x (List.mem_of_mem_drop (List.mem_of_mem_take hx))
    rw [h.len]
    rw [List.length_take, List.length_drop, Nat.min_eq_left (by have := h.w1; omega)] at h1
    exact h1
  have := h.sg _ (List.getElem_mem hn)
  simpa [List.getD, List.getElem?_eq_getElem hn] using this
theorem win_lt {R : Rule} (h : R.ok) {l : List Nat} (hl : ∀ x ∈ l, x < R.s) {p : Nat} (hp : p + R.w ≤ l.length) : num R.s ((l.drop p).take R.w) < R.t.length := by
  have h1 := num_lt (s := R.s) ((l.drop p).take R.w) fun x hx => hl x (List.mem_of_mem_drop (List.mem_of_mem_take hx))
  rw [h.len]
  rw [List.length_take, List.length_drop, Nat.min_eq_left (by omega)] at h1
  exact h1
theorem around_len (r : List Nat) (m : Nat) : (around r m).length = r.length + m := by simp [around]
theorem around_lt {s : Nat} {r : List Nat} {m : Nat} (h : ∀ x ∈ r, x < s) (hp : 0 < r.length) : ∀ x ∈ around r m, x < s := by
  intro x hx
  obtain ⟨p, _, rfl⟩ := List.mem_map.mp hx
  have hl := Nat.mod_lt p hp
  have := h _ (List.getElem_mem hl)
  simpa [List.getD, List.getElem?_eq_getElem hl] using this
theorem cells_lt {s : Nat} (hs : 0 < s) : ∀ k n, ∀ x ∈ cells s k n, x < s
  | 0, _, x, hx => by cases hx
  | k + 1, n, x, hx => by
    rcases List.mem_cons.mp hx with rfl | hx
    · exact Nat.mod_lt _ hs
    · exact cells_lt hs k n x hx
theorem num_cons (s : Nat) (c : Nat) (cs : List Nat) : num s (c :: cs) = c * s ^ cs.length + num s cs := by
  have key : ∀ (cs : List Nat) (a : Nat), cs.foldl (fun a c => a * s + c) a = a * s ^ cs.length + cs.foldl (fun a c => a * s + c) 0 := by
    intro cs
    induction cs with
    | nil => intro a; simp
    | cons d r ih =>
      intro a
      rw [List.foldl_cons, List.foldl_cons, ih (a * s + d), ih (0 * s + d), List.length_cons, Nat.pow_succ, Nat.add_mul, Nat.zero_mul, Nat.zero_add, Nat.mul_assoc, Nat.mul_comm s]
      omega
  show (c :: cs).foldl (fun a c => a * s + c) 0 = _
  rw [List.foldl_cons, key, Nat.zero_mul, Nat.zero_add]
  rfl
theorem num_append (s : Nat) (u v : List Nat) : num s (u ++ v) = num s u * s ^ v.length + num s v := by
  induction u with
  | nil => simp [num]
  | cons c r ih =>
    rw [List.cons_append, num_cons, num_cons, ih, List.length_append, Nat.pow_add, Nat.add_mul, Nat.mul_assoc]
    omega
/-- the number of the row of a number -/
theorem num_cells_mod {s : Nat} (hs : 0 < s) : ∀ (k n : Nat), num s (cells s k n) = n % s ^ k
  | 0, n => by simp [cells, num, Nat.mod_one]
  | k + 1, n => by
    show num s ((n / s ^ k % s) :: cells s k n) = _
    rw [num_cons, cells_len, num_cells_mod hs k n, Nat.pow_succ, Nat.mod_mul, Nat.mul_comm (n / s ^ k % s)]
    omega
theorem num_cells {s : Nat} (hs : 0 < s) (k n : Nat) (h : n < s ^ k) : num s (cells s k n) = n := by rw [num_cells_mod hs, Nat.mod_eq_of_lt h]
theorem on_len (R : Rule) (l : List Nat) : (on R l).length = l.length + 1 - R.w := by simp [on]
theorem cells_num {s : Nat} : ∀ (u : List Nat), (∀ x ∈ u, x < s) → cells s u.length (num s u) = u
  | [], _ => rfl
  | c :: r, h => by
    have hc := h c List.mem_cons_self
    have hr := num_lt r fun x hx => h x (List.mem_cons_of_mem _ hx)
    have hs : 0 < s := by omega
    have hp : 0 < s ^ r.length := Nat.pow_pos hs
    have key : ∀ (k n m : Nat), n % s ^ k = m % s ^ k → cells s k n = cells s k m := by
      intro k
      induction k with
      | zero => intro n m _; rfl
      | succ k ih =>
        intro n m e
        rw [Nat.pow_succ] at e
        show (n / s ^ k % s) :: cells s k n = (m / s ^ k % s) :: cells s k m
        rw [ih n m (by rw [← Nat.mod_mul_right_mod n (s ^ k) s, ← Nat.mod_mul_right_mod m (s ^ k) s, e]), ← Nat.mod_mul_right_div_self, ← Nat.mod_mul_right_div_self, e]
    rw [num_cons, List.length_cons]
    show ((c * s ^ r.length + num s r) / s ^ r.length % s) :: cells s r.length (c * s ^ r.length + num s r) = _
    rw [key r.length (c * s ^ r.length + num s r) (num s r) (by rw [Nat.mul_add_mod_self_right]), cells_num r fun x hx => h x (List.mem_cons_of_mem _ hx), Nat.add_comm, Nat.add_mul_div_right _ _ hp, Nat.div_eq_of_lt hr, Nat.zero_add, Nat.mod_eq_of_lt hc]

/-! ### the laws' own draws -/
def cellAt (ns : List Int) (k : Nat) : Int := ns.getD k 0
def mixed (c : Int) (k : Nat) : Nat := ((c % 1000000007).toNat + 1) * 48271 % 2147483647 * (16807 + 7919 * k * k + 31 * k) % 2147483629 / 7
def randomT (s rows : Nat) (more : Int) : List Nat := (List.range rows).map fun k => mixed more k % s
def mendingT (s rows : Nat) (more : Int) : List Nat :=
  if more % 2 = 0 then (List.range rows).map fun k => (k % s + mixed more (k / s)) % s
  else (List.range rows).map fun k => (k / (rows / s) + mixed more (k % (rows / s))) % s
def betweenL (k : Nat) : List Nat := [k / 8, k / 4 % 2, k / 2 % 2, k % 2]
def betweenR (k : Nat) (way : Int) : List Nat := (betweenL k).take (1 + (way / 2 % 2).toNat) ++ (betweenL k).drop (1 + (way / 2 % 2).toNat + 1)
def between (k : Nat) (way : Int) : Nat := ((betweenL k).getD (1 + (way / 2 % 2).toNat) 0 + if betweenR k way = (if way % 2 = 0 then [1, 0, 1] else [0, 1, 0]) then 1 else 0) % 2
def beside (k : Nat) (way : Int) : Nat :=
  let told := (way / 2 % 3).toNat
  let cell := if way % 2 = 0 then k / 3 else k % 3
  let near := if way % 2 = 0 then k % 3 else k / 3
  if near = told ∧ cell ≠ told then 3 - told - cell else cell
theorem beside_lt {k : Nat} {way : Int} (h : k < 9) : beside k way < 3 := by
  unfold beside
  have h1 : (way / 2 % 3).toNat < 3 := by have := Int.emod_lt_of_pos (way / 2) (show (0 : Int) < 3 by decide); have := Int.emod_nonneg (way / 2) (show (3 : Int) ≠ 0 by decide); omega
  dsimp only
  split <;> split <;> omega
def orderT (s : Nat) (more : Int) : List Nat := (List.range s).map fun k : Nat => ((more / 4 + (k : Int) * (if more / 64 % 2 = 0 then 1 else (s : Int) - 1)) % (s : Int)).toNat
def stepT (s w : Nat) (more : Int) : Nat := [1, s, s * s, s * s * s].getD (more / 16 % (w : Int)).toNat 0
def turnedT (s w rows : Nat) (more : Int) : List Nat :=
  if s = 4 ∧ w = 2 ∧ 0 < more % 4 then (List.range 16).map fun k => (orderT s more).getD (k / 8 * 2 + k % 2) 0
  else if s = 3 ∧ w = 2 ∧ 0 < more % 4 then (List.range 9).map fun k => (orderT s more).getD (beside k (more / 256)) 0
  else if s = 2 ∧ w = 4 ∧ 0 < more % 4 then (List.range 16).map fun k => (orderT s more).getD (between k (more / 256)) 0
  else (List.range rows).map fun k => (orderT s more).getD (k / stepT s w more % s) 0
def menuR : List (Nat × Nat × Nat) := [(2, 3, 8), (2, 2, 4), (3, 2, 9), (4, 2, 16), (2, 1, 2), (2, 4, 16), (3, 1, 3), (4, 1, 4)]
def tableOf (s w rows : Nat) (cell more : Int) : List Nat :=
  if cell / 8 % 4 = 1 then mendingT s rows more else if 1 < cell / 8 % 4 then turnedT s w rows more else randomT s rows more
def ruleOf (cell more : Int) : Rule :=
  let e := menuR.getD (cell % 8).toNat (0, 0, 0)
  ⟨e.1, e.2.1, tableOf e.1 e.2.1 e.2.2 cell more⟩
theorem order_lt {s : Nat} {more : Int} {k : Nat} (hs : 0 < s) (d : Nat) (hd : d < s) : (orderT s more).getD k d < s := by
  by_cases hk : k < s
  · have : (orderT s more).getD k d = (orderT s more)[k]'(by simp [orderT, hk]) := by simp [List.getD, orderT, hk]
    rw [this]
    simp only [orderT, List.getElem_map, List.getElem_range]
    have h1 := Int.emod_lt_of_pos (more / 4 + (k : Int) * (if more / 64 % 2 = 0 then 1 else (s : Int) - 1)) (show (0 : Int) < s by omega)
    have h2 := Int.emod_nonneg (more / 4 + (k : Int) * (if more / 64 % 2 = 0 then 1 else (s : Int) - 1)) (show (s : Int) ≠ 0 by omega)
    omega
  · have : (orderT s more).getD k d = d := by simp [List.getD, orderT, Nat.le_of_not_lt hk]
    rw [this]
    exact hd
theorem turned_ok {s w rows : Nat} {more : Int} (hs : 0 < s) (h4 : s = 4 → w = 2 → rows = 16) (h3 : s = 3 → w = 2 → rows = 9) (h2 : s = 2 → w = 4 → rows = 16) : (turnedT s w rows more).length = rows ∧ ∀ x ∈ turnedT s w rows more, x < s := by
  unfold turnedT
  split
  · rename_i h
    rw [h4 h.1 h.2.1]
    refine ⟨by simp, fun x hx => ?_⟩
    obtain ⟨q, _, rfl⟩ := List.mem_map.mp hx
    exact order_lt hs 0 hs
  split
  · rename_i h
    rw [h3 h.1 h.2.1]
    refine ⟨by simp, fun x hx => ?_⟩
    obtain ⟨q, _, rfl⟩ := List.mem_map.mp hx
    exact order_lt hs 0 hs
  split
  · rename_i h
    rw [h2 h.1 h.2.1]
    refine ⟨by simp, fun x hx => ?_⟩
    obtain ⟨q, _, rfl⟩ := List.mem_map.mp hx
    exact order_lt hs 0 hs
  · refine ⟨by simp, fun x hx => ?_⟩
    obtain ⟨q, _, rfl⟩ := List.mem_map.mp hx
    exact order_lt hs 0 hs
theorem table_ok {s w rows : Nat} {cell more : Int} (hs : 0 < s) (h4 : s = 4 → w = 2 → rows = 16) (h3 : s = 3 → w = 2 → rows = 9) (h2 : s = 2 → w = 4 → rows = 16) : (tableOf s w rows cell more).length = rows ∧ ∀ x ∈ tableOf s w rows cell more, x < s := by
  unfold tableOf
  split
  · unfold mendingT
    split
    · refine ⟨by simp, fun x hx => ?_⟩
      obtain ⟨q, _, rfl⟩ := List.mem_map.mp hx
      exact Nat.mod_lt _ hs
    · refine ⟨by simp, fun x hx => ?_⟩
      obtain ⟨q, _, rfl⟩ := List.mem_map.mp hx
      exact Nat.mod_lt _ hs
  split
  · exact turned_ok hs h4 h3 h2
  · refine ⟨by simp [randomT], fun x hx => ?_⟩
    obtain ⟨q, _, rfl⟩ := List.mem_map.mp hx
    exact Nat.mod_lt _ hs
theorem menu_mem (cell : Int) : menuR.getD (cell % 8).toNat (0, 0, 0) ∈ menuR := by
  have h : (cell % 8).toNat < menuR.length := by
    have h1 := Int.emod_lt_of_pos cell (show (0 : Int) < 8 by decide)
    have h2 := Int.emod_nonneg cell (show (8 : Int) ≠ 0 by decide)
    show _ < 8
    omega
  rw [List.getD, List.getElem?_eq_getElem h]
  exact List.getElem_mem h
structure MenuOk (e : Nat × Nat × Nat) : Prop where
  s2 : 2 ≤ e.1
  s4 : e.1 ≤ 4
  w1 : 1 ≤ e.2.1
  w4 : e.2.1 ≤ 4
  few : e.1 ^ e.2.1 ≤ 16
  rows : e.2.2 = e.1 ^ e.2.1
theorem menu_ok : ∀ e ∈ menuR, MenuOk e := by
  intro e he
  simp only [menuR, List.mem_cons, List.not_mem_nil, or_false] at he
  rcases he with rfl | rfl | rfl | rfl | rfl | rfl | rfl | rfl <;> exact ⟨by decide, by decide, by decide, by decide, by decide, by decide⟩
theorem ruleOf_ok (cell more : Int) : (ruleOf cell more).ok := by
  have m := menu_ok _ (menu_mem cell)
  have t := table_ok (s := (menuR.getD (cell % 8).toNat (0, 0, 0)).1) (w := (menuR.getD (cell % 8).toNat (0, 0, 0)).2.1) (rows := (menuR.getD (cell % 8).toNat (0, 0, 0)).2.2) (cell := cell) (more := more) (by have := m.s2; omega)
    (fun a b => by rw [m.rows, a, b]) (fun a b => by rw [m.rows, a, b]) (fun a b => by rw [m.rows, a, b])
  exact ⟨m.s2, m.s4, m.w1, m.w4, m.few, t.1.trans m.rows, t.2⟩

/-! ### the laws' own leading -/
def pieceOf (s : Nat) (c : Int) (n : Nat) : List Nat := (List.range n).map fun k => mixed c k / 3 % s
theorem pieceOf_len (s : Nat) (c : Int) (n : Nat) : (pieceOf s c n).length = n := by simp [pieceOf]
theorem pieceOf_lt {s : Nat} (hs : 0 < s) (c : Int) (n : Nat) : ∀ x ∈ pieceOf s c n, x < s := by
  intro x hx
  obtain ⟨q, _, rfl⟩ := List.mem_map.mp hx
  exact Nat.mod_lt _ hs
theorem rep_getD {α : Type} (r : List α) (d : α) : ∀ (m p : Nat), p < m * r.length → (List.replicate m r).flatten.getD p d = r.getD (p % r.length) d
  | 0, p, h => by simp at h
  | m + 1, p, h => by
    rw [List.replicate_succ, List.flatten_cons]
    by_cases hp : p < r.length
    · rw [Nat.mod_eq_of_lt hp]
      simp [List.getD, List.getElem?_append_left hp]
    · have hp' : r.length ≤ p := Nat.le_of_not_lt hp
      have h2 : p - r.length < m * r.length := by rw [Nat.succ_mul] at h; omega
      have := rep_getD r d m (p - r.length) h2
      rw [← Nat.mod_eq_sub_mod hp'] at this
      rw [← this]
      simp [List.getD, List.getElem?_append_right hp']
theorem rep_len {α : Type} (r : List α) (m : Nat) : (List.replicate m r).flatten.length = m * r.length := by
  induction m with
  | zero => simp
  | succ m ih => rw [List.replicate_succ, List.flatten_cons, List.length_append, ih, Nat.succ_mul, Nat.add_comm]
theorem around_rep {k : Nat} (r : List Nat) (m : Nat) (h : m ≤ k * r.length) : around r m = ((List.replicate (1 + k) r).flatten).take (r.length + m) := by
  apply List.ext_getElem?
  intro i
  unfold around
  by_cases hi : i < r.length + m
  · have hi2 : i < (1 + k) * r.length := by rw [Nat.add_mul, Nat.one_mul]; omega
    rw [List.getElem?_map, List.getElem?_range hi, List.getElem?_take_of_lt hi]
    have := rep_getD r 0 (1 + k) i hi2
    have hl : i < (List.replicate (1 + k) r).flatten.length := by rw [rep_len]; exact hi2
    rw [List.getElem?_eq_getElem hl]
    simp only [List.getD, List.getElem?_eq_getElem hl] at this
    show some (r.getD (i % r.length) 0) = _
    simp only [List.getD]
    rw [← this]
    rfl
  · have e1 : (List.map (fun p => r.getD (p % r.length) 0) (List.range (r.length + m)))[i]? = none := by
      rw [List.getElem?_eq_none]; simp; omega
    rw [e1, List.getElem?_eq_none]
    rw [List.length_take]
    omega

/-! ### rules joined -/
def tooWide (R1 R2 : Rule) : Prop := 4 < R1.w + R2.w - 1 ∨ 16 < R1.s ^ (R1.w + R2.w - 1)
instance (R1 R2 : Rule) : Decidable (tooWide R1 R2) := by unfold tooWide; infer_instance
def joinR (R1 R2 : Rule) : Rule := ⟨R1.s, R1.w + R2.w - 1, (List.range (R1.s ^ (R1.w + R2.w - 1))).map fun n => (on R2 (on R1 (cells R1.s (R1.w + R2.w - 1) n))).getD 0 0⟩
/-- what comes of a part is a part of what comes -/
theorem on_part (R : Rule) (h : 1 ≤ R.w) (l : List Nat) (p k : Nat) (hk : p + (R.w + k - 1) ≤ l.length) : on R ((l.drop p).take (R.w + k - 1)) = ((on R l).drop p).take k := by
  apply List.ext_getElem?
  intro i
  unfold on
  have e1 : ((l.drop p).take (R.w + k - 1)).length = R.w + k - 1 := by rw [List.length_take, List.length_drop]; omega
  rw [e1]
  by_cases hi : i < k
  · rw [List.getElem?_take_of_lt hi, List.getElem?_drop, List.getElem?_map, List.getElem?_map, List.getElem?_range (by omega), List.getElem?_range (by omega)]
    show some (R.t.getD (num R.s (((l.drop p).take (R.w + k - 1)).drop i |>.take R.w)) 0) = some (R.t.getD (num R.s ((l.drop (p + i)).take R.w)) 0)
    rw [List.drop_take, List.drop_drop, List.take_take, Nat.min_eq_left (by omega)]
  · rw [List.getElem?_eq_none, List.getElem?_eq_none]
    · rw [List.length_take]; omega
    · rw [List.length_map, List.length_range]; omega
theorem joinR_ok {R1 R2 : Rule} (h1 : R1.ok) (h2 : R2.ok) (hs : R1.s = R2.s) (hw : ¬ tooWide R1 R2) : (joinR R1 R2).ok := by
  unfold tooWide at hw
  have a1 := h1.w1
  have a2 := h2.w1
  have hs0 : 0 < R1.s := by have := h1.s2; omega
  refine ⟨h1.s2, h1.s4, by show 1 ≤ R1.w + R2.w - 1; omega, by show R1.w + R2.w - 1 ≤ 4; omega, by show R1.s ^ (R1.w + R2.w - 1) ≤ 16; omega, by simp [joinR], fun x hx => ?_⟩
  obtain ⟨n, _, rfl⟩ := List.mem_map.mp hx
  have hl := on_lt h2 (l := on R1 (cells R1.s (R1.w + R2.w - 1) n)) (by rw [← hs]; exact on_lt h1 (cells_lt hs0 _ _))
  by_cases hz : 0 < (on R2 (on R1 (cells R1.s (R1.w + R2.w - 1) n))).length
  · have := hl _ (List.getElem_mem hz)
    rw [List.getD, List.getElem?_eq_getElem hz]
    exact Nat.lt_of_lt_of_eq this hs.symm
  · have : (on R2 (on R1 (cells R1.s (R1.w + R2.w - 1) n))) = [] := List.length_eq_zero_iff.mp (by omega)
    rw [this]
    exact hs0
theorem on_join {R1 R2 : Rule} (h1 : R1.ok) (h2 : R2.ok) (hs : R1.s = R2.s) {l : List Nat} (hl : ∀ x ∈ l, x < R1.s) (hz : R1.w + R2.w - 1 - 1 ≤ l.length) : on (joinR R1 R2) l = on R2 (on R1 l) := by
  have a1 := h1.w1
  have a2 := h2.w1
  apply List.ext_getElem?
  intro p
  by_cases hp : p + (R1.w + R2.w - 1) ≤ l.length
  · have el : ((l.drop p).take (R1.w + R2.w - 1)).length = R1.w + R2.w - 1 := by rw [List.length_take, List.length_drop]; omega
    have hu : ∀ x ∈ (l.drop p).take (R1.w + R2.w - 1), x < R1.s := fun x hx => hl x (List.mem_of_mem_drop (List.mem_of_mem_take hx))
    have hn := num_lt _ hu
    rw [el] at hn
    have ec := cells_num _ hu
    rw [el] at ec
    have e1 : (on (joinR R1 R2) l)[p]? = some ((joinR R1 R2).t.getD (num R1.s ((l.drop p).take (R1.w + R2.w - 1))) 0) := by
      unfold on
      show ((List.range (l.length + 1 - (R1.w + R2.w - 1))).map _)[p]? = _
      rw [List.getElem?_map, List.getElem?_range (by omega)]
      rfl
    have e2 : (joinR R1 R2).t.getD (num R1.s ((l.drop p).take (R1.w + R2.w - 1))) 0 = (on R2 (on R1 ((l.drop p).take (R1.w + R2.w - 1)))).getD 0 0 := by
      show ((List.range (R1.s ^ (R1.w + R2.w - 1))).map _).getD _ 0 = _
      rw [List.getD, List.getElem?_map, List.getElem?_range hn]
      show (on R2 (on R1 (cells R1.s (R1.w + R2.w - 1) (num R1.s ((l.drop p).take (R1.w + R2.w - 1)))))).getD 0 0 = _
      rw [ec]
    have e3 := on_part R1 a1 l p R2.w hp
    have hm : p + (R2.w + 1 - 1) ≤ (on R1 l).length := by rw [on_len]; omega
    have e4 := on_part R2 a2 (on R1 l) p 1 hm
    rw [Nat.add_sub_cancel] at e4
    rw [e1, e2, e3, e4]
    have hpl : p < (on R2 (on R1 l)).length := by rw [on_len, on_len]; omega
    rw [List.getD, List.getElem?_take_of_lt (by omega), List.getElem?_drop, Nat.add_zero, List.getElem?_eq_getElem hpl]
    rfl
  · rw [List.getElem?_eq_none, List.getElem?_eq_none]
    · rw [on_len, on_len]; omega
    · rw [on_len]
      show l.length + 1 - (R1.w + R2.w - 1) ≤ p
      omega
theorem around_get (r : List Nat) (m p : Nat) (h : p < r.length + m) : (around r m)[p]? = some (r.getD (p % r.length) 0) := by
  unfold around
  rw [List.getElem?_map, List.getElem?_range h]
  rfl
theorem around_win (r : List Nat) (m p w : Nat) (h : p + w ≤ r.length + m) : ((around r m).drop p).take w = (List.range w).map fun i => r.getD ((p + i) % r.length) 0 := by
  apply List.ext_getElem?
  intro i
  by_cases hi : i < w
  · rw [List.getElem?_take_of_lt hi, List.getElem?_drop, around_get _ _ _ (by omega), List.getElem?_map, List.getElem?_range hi]
    rfl
  · rw [List.getElem?_eq_none, List.getElem?_eq_none]
    · rw [List.length_map, List.length_range]; omega
    · rw [List.length_take]; omega
theorem onRing_len {R : Rule} (h : 1 ≤ R.w) (r : List Nat) : (onRing R r).length = r.length := by
  unfold onRing
  rw [on_len, around_len]
  omega
/-- what comes of a ring, around, is what comes of the ring around -/
theorem around_on {R : Rule} (h : 1 ≤ R.w) {r : List Nat} (hr : r ≠ []) (m : Nat) : around (onRing R r) m = on R (around r (R.w - 1 + m)) := by
  have hp : 0 < r.length := List.length_pos_iff.mpr hr
  apply List.ext_getElem?
  intro p
  by_cases hpl : p < r.length + m
  · rw [around_get _ _ _ (by rw [onRing_len h]; exact hpl), onRing_len h]
    have hq := Nat.mod_lt p hp
    have e1 : ∀ (m' q : Nat), q + R.w ≤ r.length + m' → (on R (around r m'))[q]? = some (R.t.getD (num R.s ((List.range R.w).map fun i => r.getD ((q + i) % r.length) 0)) 0) := fun m' q hq' => by
      unfold on
      rw [List.getElem?_map, List.getElem?_range (by rw [around_len]; omega)]
      show some (R.t.getD (num R.s (((around r m').drop q).take R.w)) 0) = _
      rw [around_win r m' q R.w hq']
    rw [e1 (R.w - 1 + m) p (by omega)]
    have g : (onRing R r).getD (p % r.length) 0 = R.t.getD (num R.s ((List.range R.w).map fun i => r.getD ((p % r.length + i) % r.length) 0)) 0 := by
      have e2 : (onRing R r)[p % r.length]? = _ := e1 (R.w - 1) (p % r.length) (by omega)
      rw [List.getD, e2]
      rfl
    have g2 : ((List.range R.w).map fun i => r.getD ((p % r.length + i) % r.length) 0) = (List.range R.w).map fun i => r.getD ((p + i) % r.length) 0 := by
      apply List.map_congr_left
      intro i _
      rw [Nat.mod_add_mod]
    rw [g, g2]
  · rw [List.getElem?_eq_none, List.getElem?_eq_none]
    · rw [on_len, around_len]; omega
    · rw [around_len, onRing_len h]; omega
theorem onRing_join {R1 R2 : Rule} (h1 : R1.ok) (h2 : R2.ok) (hs : R1.s = R2.s) {r : List Nat} (hr : r ≠ []) (hl : ∀ x ∈ r, x < R1.s) : onRing (joinR R1 R2) r = onRing R2 (onRing R1 r) := by
  have a1 := h1.w1
  have a2 := h2.w1
  have hp : 0 < r.length := List.length_pos_iff.mpr hr
  show on (joinR R1 R2) (around r (R1.w + R2.w - 1 - 1)) = on R2 (around (onRing R1 r) (R2.w - 1))
  rw [around_on a1 hr, on_join h1 h2 hs (around_lt hl hp) (by rw [around_len]; omega)]
  congr 3
  omega
def dueJ (R1 R2 : Rule) : PyData := if R1.s ≠ R2.s then .str "rule" else if tooWide R1 R2 then .str "wide" else encR (joinR R1 R2)
def menuN : List (Nat × Nat × Nat) := [(2, 1, 2), (2, 2, 4), (3, 1, 3), (4, 1, 4), (2, 3, 8), (3, 2, 9), (4, 2, 16), (2, 2, 4)]
theorem menuN_ok : ∀ e ∈ menuN, MenuOk e := by
  intro e he
  simp only [menuN, List.mem_cons, List.not_mem_nil, or_false] at he
  rcases he with rfl | rfl | rfl | rfl | rfl | rfl | rfl | rfl <;> exact ⟨by decide, by decide, by decide, by decide, by decide, by decide⟩
theorem menuN_mem (cell : Int) : menuN.getD (cell % 8).toNat (0, 0, 0) ∈ menuN := by
  have h : (cell % 8).toNat < menuN.length := by
    have h1 := Int.emod_lt_of_pos cell (show (0 : Int) < 8 by decide)
    have h2 := Int.emod_nonneg cell (show (8 : Int) ≠ 0 by decide)
    show _ < 8
    omega
  rw [List.getD, List.getElem?_eq_getElem h]
  exact List.getElem_mem h
def tableN (s w rows : Nat) (cell more : Int) : List Nat := if cell / 8 % 2 = 0 then randomT s rows more else turnedT s w rows more
def ruleN (cell more : Int) : Rule :=
  let e := menuN.getD (cell % 8).toNat (0, 0, 0)
  ⟨e.1, e.2.1, tableN e.1 e.2.1 e.2.2 cell more⟩
theorem random_ok {s rows : Nat} {more : Int} (hs : 0 < s) : (randomT s rows more).length = rows ∧ ∀ x ∈ randomT s rows more, x < s := by
  refine ⟨by simp [randomT], fun x hx => ?_⟩
  obtain ⟨q, _, rfl⟩ := List.mem_map.mp hx
  exact Nat.mod_lt _ hs
theorem ruleN_ok (cell more : Int) : (ruleN cell more).ok := by
  have m := menuN_ok _ (menuN_mem cell)
  unfold ruleN
  generalize menuN.getD (cell % 8).toNat (0, 0, 0) = e at m ⊢
  have t : (tableN e.1 e.2.1 e.2.2 cell more).length = e.2.2 ∧ ∀ x ∈ tableN e.1 e.2.1 e.2.2 cell more, x < e.1 := by
    unfold tableN
    split
    · exact random_ok (by have := m.s2; omega)
    · exact turned_ok (by have := m.s2; omega) (fun a b => by rw [m.rows, a, b]) (fun a b => by rw [m.rows, a, b]) (fun a b => by rw [m.rows, a, b])
  exact ⟨m.s2, m.s4, m.w1, m.w4, m.few, t.1.trans m.rows, t.2⟩
/-- a rule of one cell, drawn -/
def ruleO (s : Nat) (more : Int) : Rule := ⟨s, 1, randomT s s more⟩
theorem ruleO_ok {s : Nat} (h2 : 2 ≤ s) (h4 : s ≤ 4) (more : Int) : (ruleO s more).ok := by
  have t := random_ok (s := s) (rows := s) (more := more) (by omega)
  exact ⟨h2, h4, Nat.le_refl 1, by show 1 ≤ 4; decide, by show s ^ 1 ≤ 16; rw [Nat.pow_one]; omega, by show _ = s ^ 1; rw [Nat.pow_one]; exact t.1, t.2⟩
theorem shp_rule (R : Rule) : shp 2 (encR R) := shp_tuple fun x hx => by
  have hx : x = nI R.s ∨ x = nI R.w ∨ x = nT R.t := by simpa using hx
  rcases hx with rfl | rfl | rfl
  · exact shp_int
  · exact shp_int
  · exact shp_nT
theorem shp_dueJ (R1 R2 : Rule) : shp 2 (dueJ R1 R2) := by
  unfold dueJ
  split
  · exact ⟨by simp only [PyData.canLay0]; decide +kernel, by simp [PyData.depth]⟩
  split
  · exact ⟨by simp only [PyData.canLay0]; decide +kernel, by simp [PyData.depth]⟩
  · exact shp_rule _

/-! ### the steps between ends -/
def manyE (R : Rule) : Nat := R.s ^ (R.w - 1)
def stepsN (R : Rule) (e sg : Nat) : List (Nat × Nat) := ((List.range R.s).filter fun c => decide (R.t.getD (e * R.s + c) 0 = sg)).map fun c => (c, (e * R.s + c) % manyE R)
abbrev encS (p : Nat × Nat) : PyData := .tuple [nI p.1, nI p.2]
theorem manyE_pos {R : Rule} (h : R.ok) : 0 < manyE R := Nat.pow_pos (by have := h.s2; omega)
theorem manyE_mul {R : Rule} (h : R.ok) : manyE R * R.s = R.s ^ R.w := by
  unfold manyE
  rw [← Nat.pow_succ]
  congr 1
  have := h.w1
  omega
theorem manyE_le {R : Rule} (h : R.ok) : manyE R ≤ 8 := by
  have h1 := manyE_mul h
  have h2 := h.few
  have h3 := h.s2
  have : manyE R * 2 ≤ manyE R * R.s := Nat.mul_le_mul_left _ h3
  omega
theorem step_lt {R : Rule} (h : R.ok) {e c : Nat} (he : e < manyE R) (hc : c < R.s) : e * R.s + c < R.t.length := by
  rw [h.len, ← manyE_mul h]
  have : (e + 1) * R.s ≤ manyE R * R.s := Nat.mul_le_mul_right _ he
  rw [Nat.add_mul, Nat.one_mul] at this
  omega
theorem stepsN_len (R : Rule) (e sg : Nat) : (stepsN R e sg).length ≤ R.s := by
  unfold stepsN
  rw [List.length_map]
  have := List.length_filter_le (fun c => decide (R.t.getD (e * R.s + c) 0 = sg)) (List.range R.s)
  rw [List.length_range] at this
  exact this
theorem stepsN_lt {R : Rule} (h : R.ok) {e sg : Nat} : ∀ p ∈ stepsN R e sg, p.1 < R.s ∧ p.2 < manyE R := by
  intro p hp
  obtain ⟨c, hc, rfl⟩ := List.mem_map.mp hp
  exact ⟨List.mem_range.mp (List.mem_filter.mp hc).1, Nat.mod_lt _ (manyE_pos h)⟩
def furtherN (R : Rule) (es : List Nat) (sg : Nat) : List Nat := (List.range (manyE R)).filter fun o => es.any fun e => (stepsN R e sg).any fun p => decide (p.2 = o)
theorem furtherN_lt {R : Rule} {es : List Nat} {sg : Nat} : ∀ o ∈ furtherN R es sg, o < manyE R := fun o ho => List.mem_range.mp (List.mem_filter.mp ho).1
theorem mem_furtherN {R : Rule} (h : R.ok) {es : List Nat} {sg o : Nat} : o ∈ furtherN R es sg ↔ ∃ e ∈ es, ∃ p ∈ stepsN R e sg, p.2 = o := by
  unfold furtherN
  rw [List.mem_filter, List.any_eq_true, List.mem_range]
  constructor
  · rintro ⟨_, e, he, h2⟩
    obtain ⟨p, hp, h3⟩ := List.any_eq_true.mp h2
    exact ⟨e, he, p, hp, of_decide_eq_true h3⟩
  · rintro ⟨e, he, p, hp, rfl⟩
    exact ⟨(stepsN_lt h p hp).2, e, he, List.any_eq_true.mpr ⟨p, hp, decide_eq_true rfl⟩⟩
theorem furtherN_sorted (R : Rule) (es : List Nat) (sg : Nat) : (furtherN R es sg).Pairwise (· ≤ ·) := by
  unfold furtherN
  exact (List.pairwise_lt_range.imp fun h => Nat.le_of_lt h).filter _
theorem furtherN_nodup (R : Rule) (es : List Nat) (sg : Nat) : (furtherN R es sg).Nodup := by
  unfold furtherN
  exact List.nodup_range.filter _
/-- the keys of a dict, numbers put in one by one -/
def putN (ks : List Nat) (o : Nat) : List Nat := if o ∈ ks then ks else ks ++ [o]
theorem mem_putN {ks : List Nat} {o q : Nat} : q ∈ putN ks o ↔ q ∈ ks ∨ q = o := by
  unfold putN
  split
  · rename_i h
    constructor
    · exact .inl
    · rintro (h2 | rfl)
      · exact h2
      · exact h
  · rw [List.mem_append, List.mem_singleton]
theorem putN_nodup {ks : List Nat} {o : Nat} (h : ks.Nodup) : (putN ks o).Nodup := by
  unfold putN
  split
  · exact h
  · rename_i h2
    rw [List.nodup_append]
    exact ⟨h, by simp, fun a ha b hb => by
      rw [List.mem_singleton] at hb
      subst hb
      intro z
      exact h2 (z ▸ ha)⟩
theorem putD_putN {kvs : List (Key × PyData)} {ks : List Nat} (h : kvs.map (·.1) = ks.map fun o : Nat => (Sum.inl (o : Int) : Key)) (o : Nat) (x : PyData) : (putD kvs (.inl (o : Int)) x).map (·.1) = (putN ks o).map fun o : Nat => (Sum.inl (o : Int) : Key) := by
  rw [putD_keys, h]
  have e : ((Sum.inl (o : Int) : Key) ∈ ks.map fun o : Nat => (Sum.inl (o : Int) : Key)) ↔ o ∈ ks := by
    rw [List.mem_map]
    constructor
    · rintro ⟨q, hq, e⟩
      have : (q : Int) = (o : Int) := Sum.inl.inj e
      have : q = o := by omega
      exact this ▸ hq
    · intro hq; exact ⟨o, hq, rfl⟩
  unfold putN
  by_cases hm : o ∈ ks
  · rw [if_pos (e.mpr hm), if_pos hm]
  · rw [if_neg (fun z => hm (e.mp z)), if_neg hm, List.map_append]
    rfl
theorem nodup_len {ks : List Nat} {M : Nat} (hn : ks.Nodup) (hb : ∀ o ∈ ks, o < M) : ks.length ≤ M := by
  have hp : ((List.range M).filter (fun o => decide (o ∈ ks))).Perm ks := (List.perm_ext_iff_of_nodup (List.nodup_range.filter _) hn).mpr fun o => by
    rw [List.mem_filter, List.mem_range, decide_eq_true_eq]
    exact ⟨fun z => z.2, fun z => ⟨hb o z, z⟩⟩
  rw [← hp.length_eq]
  have := List.length_filter_le (fun o => decide (o ∈ ks)) (List.range M)
  rwa [List.length_range] at this
/-- the ends gone to -/
def endsN (R : Rule) (u : List Nat) : List Nat := u.foldl (furtherN R) (List.range (manyE R))
theorem endsN_snoc (R : Rule) (u : List Nat) (sg : Nat) : endsN R (u ++ [sg]) = furtherN R (endsN R u) sg := by simp [endsN]
theorem endsN_lt (R : Rule) (u : List Nat) : ∀ e ∈ endsN R u, e < manyE R := by
  rcases List.eq_nil_or_concat u with rfl | ⟨v, a, rfl⟩
  · intro e he; exact List.mem_range.mp he
  · rw [List.concat_eq_append, endsN_snoc]
    exact furtherN_lt
theorem endsN_len (R : Rule) (u : List Nat) : (endsN R u).length ≤ manyE R := by
  rcases List.eq_nil_or_concat u with rfl | ⟨v, a, rfl⟩
  · simp [endsN]
  · rw [List.concat_eq_append, endsN_snoc]
    have := List.length_filter_le (fun o => (endsN R v).any fun e => (stepsN R e a).any fun p => decide (p.2 = o)) (List.range (manyE R))
    rwa [List.length_range] at this
/-- the counts, one sign on -/
def addTo (c : Nat) (f : List Nat) (o : Nat) : List Nat := f.set o (f.getD o 0 + c)
def cstepE (R : Rule) (sg : Nat) (f : List Nat) (q : Nat × Nat) : List Nat := ((stepsN R q.1 sg).map (·.2)).foldl (addTo q.2) f
def cstep (R : Rule) (cs : List Nat) (sg : Nat) : List Nat := ((cs.zipIdx).map fun q => (q.2, q.1)).foldl (cstepE R sg) (List.replicate cs.length 0)
def cntN (R : Rule) (u : List Nat) : List Nat := u.foldl (cstep R) (List.replicate (manyE R) 1)
theorem addTo_len (c : Nat) (f : List Nat) (o : Nat) : (addTo c f o).length = f.length := by simp [addTo]
theorem fold_len {α : Type} (g : List Nat → α → List Nat) (hg : ∀ f a, (g f a).length = f.length) : ∀ (l : List α) (f : List Nat), (l.foldl g f).length = f.length
  | [], _ => rfl
  | a :: l, f => by rw [List.foldl_cons, fold_len g hg l, hg]
theorem cstepE_len (R : Rule) (sg : Nat) (f : List Nat) (q : Nat × Nat) : (cstepE R sg f q).length = f.length := fold_len _ (addTo_len q.2) _ _
theorem cstep_len (R : Rule) (cs : List Nat) (sg : Nat) : (cstep R cs sg).length = cs.length := by
  unfold cstep
  rw [fold_len _ (cstepE_len R sg), List.length_replicate]
theorem cntN_snoc (R : Rule) (u : List Nat) (sg : Nat) : cntN R (u ++ [sg]) = cstep R (cntN R u) sg := by simp [cntN]
theorem cntN_len (R : Rule) (u : List Nat) : (cntN R u).length = manyE R := by
  unfold cntN
  rw [fold_len _ (cstep_len R), List.length_replicate]
/-- the ends from which a piece leads on -/
def goodN (R : Rule) (prev : List Nat) (sg : Nat) : List Nat := (List.range (manyE R)).filter fun e => (stepsN R e sg).any fun p => decide (p.2 ∈ prev)
/-- .. for each rest of the piece, the whole first -/
def leadN (R : Rule) : List Nat → List (List Nat)
  | [] => [List.range (manyE R)]
  | sg :: u => goodN R ((leadN R u).headD []) sg :: leadN R u
theorem leadN_len (R : Rule) (u : List Nat) : (leadN R u).length = u.length + 1 := by
  induction u with
  | nil => rfl
  | cons a u ih => rw [leadN, List.length_cons, ih, List.length_cons]
theorem leadN_lt (R : Rule) (u : List Nat) : ∀ l ∈ leadN R u, ∀ e ∈ l, e < manyE R := by
  induction u with
  | nil =>
    intro l hl e he
    have : l = List.range (manyE R) := by simpa [leadN] using hl
    subst this
    exact List.mem_range.mp he
  | cons a u ih =>
    intro l hl e he
    rw [leadN] at hl
    rcases List.mem_cons.mp hl with rfl | hl
    · exact List.mem_range.mp (List.mem_filter.mp he).1
    · exact ih l hl e he
theorem atI_last {α : Type} (xs : List α) (x : α) : L2.atI (xs ++ [x]) (-1) = some x := by
  unfold L2.atI L2.ixN
  rw [List.length_append, List.length_singleton, if_neg (by decide), if_pos (by omega)]
  have e : ((-1 : Int) + ((xs.length + 1 : Nat) : Int)).toNat = xs.length := by omega
  show (xs ++ [x])[((-1 : Int) + ((xs.length + 1 : Nat) : Int)).toNat]? = some x
  rw [e]
  simp
/-- the first step that leads on -/
def stepOn (R : Rule) (prev : List Nat) (e sg : Nat) : Nat × Nat := ((stepsN R e sg).filter fun p => decide (p.2 ∈ prev)).headD (0, 0)
/-- the cells of the least way -/
def wayN (R : Rule) : List Nat → Nat → List Nat
  | [], _ => []
  | sg :: u, e => (stepOn R ((leadN R u).headD []) e sg).1 :: wayN R u (stepOn R ((leadN R u).headD []) e sg).2
theorem stepOn_mem {R : Rule} {prev : List Nat} {e sg : Nat} (h : e ∈ goodN R prev sg) : stepOn R prev e sg ∈ stepsN R e sg ∧ (stepOn R prev e sg).2 ∈ prev ∧ ((stepsN R e sg).filter fun p => decide (p.2 ∈ prev)).head? = some (stepOn R prev e sg) := by
  unfold goodN at h
  rw [List.mem_filter, List.any_eq_true] at h
  obtain ⟨_, p, hp, h2⟩ := h
  unfold stepOn
  cases q : (stepsN R e sg).filter fun p => decide (p.2 ∈ prev) with
  | nil =>
    have := List.filter_eq_nil_iff.mp q p hp
    exact absurd h2 this
  | cons a r =>
    have ha : a ∈ (stepsN R e sg).filter fun p => decide (p.2 ∈ prev) := by rw [q]; simp
    rw [List.mem_filter, decide_eq_true_eq] at ha
    exact ⟨ha.1, ha.2, rfl⟩
def leastN (R : Rule) (u : List Nat) : Option (List Nat) := match (leadN R u).headD [] with
  | [] => none
  | e :: _ => some (cells R.s (R.w - 1) e ++ wayN R u e)
/-- the end behind the way so far -/
def endOn (R : Rule) : List Nat → List Nat → Nat → Nat
  | [], _, e => e
  | sg :: u, rest, e => endOn R u rest (stepOn R ((leadN R (u ++ rest)).headD []) e sg).2
theorem leadN_drop (R : Rule) (u v : List Nat) : (leadN R (u ++ v)).drop u.length = leadN R v := by
  induction u with
  | nil => rfl
  | cons a u ih => rw [List.cons_append, leadN, List.length_cons, List.drop_succ_cons, ih]
theorem leadN_at (R : Rule) (u v : List Nat) : (leadN R (u ++ v)).getD u.length [] = (leadN R v).headD [] := by
  have h := leadN_drop R u v
  rw [← h]
  cases q : (leadN R (u ++ v)).drop u.length with
  | nil =>
    have := congrArg List.length q
    rw [List.length_drop, leadN_len, List.length_append, List.length_nil] at this
    omega
  | cons x y =>
    have : (leadN R (u ++ v))[u.length]? = some x := by
      have := congrArg (·[0]?) q
      simpa using this
    rw [List.getD, this]
    rfl
theorem goodN_step {R : Rule} {sg : Nat} {u : List Nat} {e : Nat} (h : e ∈ (leadN R (sg :: u)).headD []) : e ∈ goodN R ((leadN R u).headD []) sg := h

/-! ### paths: cells read one by one from an end -/
def nxE (R : Rule) (e c : Nat) : Nat := (e * R.s + c) % manyE R
def outE (R : Rule) (e c : Nat) : Nat := R.t.getD (e * R.s + c) 0
def runE (R : Rule) (e : Nat) (cs : List Nat) : Nat := cs.foldl (nxE R) e
def outsE (R : Rule) : Nat → List Nat → List Nat
  | _, [] => []
  | e, c :: cs => outE R e c :: outsE R (nxE R e c) cs
/-- all rows of cells that lead from an end and tell a piece, the least first -/
def extN (R : Rule) : Nat → List Nat → List (List Nat)
  | _, [] => [[]]
  | e, a :: u => (stepsN R e a).flatMap fun p => (extN R p.2 u).map (p.1 :: ·)
theorem runE_append (R : Rule) (e : Nat) (a b : List Nat) : runE R e (a ++ b) = runE R (runE R e a) b := by simp [runE]
theorem outsE_append (R : Rule) (a b : List Nat) : ∀ e, outsE R e (a ++ b) = outsE R e a ++ outsE R (runE R e a) b := by
  induction a with
  | nil => intro e; rfl
  | cons c a ih =>
    intro e
    rw [List.cons_append, outsE, outsE, ih, List.cons_append]
    rfl
theorem outsE_len (R : Rule) (a : List Nat) : ∀ e, (outsE R e a).length = a.length := by
  induction a with
  | nil => intro e; rfl
  | cons c a ih => intro e; rw [outsE, List.length_cons, ih, List.length_cons]
theorem nxE_lt {R : Rule} (h : R.ok) (e c : Nat) : nxE R e c < manyE R := Nat.mod_lt _ (manyE_pos h)
theorem runE_lt {R : Rule} (h : R.ok) {e : Nat} (he : e < manyE R) (cs : List Nat) : runE R e cs < manyE R := by
  rcases List.eq_nil_or_concat cs with rfl | ⟨v, a, rfl⟩
  · exact he
  · rw [List.concat_eq_append, runE_append]
    exact nxE_lt h _ _
theorem mem_stepsN {R : Rule} {e a : Nat} {p : Nat × Nat} : p ∈ stepsN R e a ↔ p.1 < R.s ∧ outE R e p.1 = a ∧ p.2 = nxE R e p.1 := by
  unfold stepsN
  rw [List.mem_map]
  constructor
  · rintro ⟨c, hc, rfl⟩
    rw [List.mem_filter, List.mem_range, decide_eq_true_eq] at hc
    exact ⟨hc.1, hc.2, rfl⟩
  · rintro ⟨h1, h2, h3⟩
    refine ⟨p.1, ?_, ?_⟩
    · rw [List.mem_filter, List.mem_range, decide_eq_true_eq]
      exact ⟨h1, h2⟩
    · obtain ⟨x, y⟩ := p
      have h3 : y = nxE R e x := h3
      rw [h3]
      rfl
theorem mem_extN {R : Rule} : ∀ (u : List Nat) (e : Nat) (cs : List Nat), cs ∈ extN R e u ↔ (∀ c ∈ cs, c < R.s) ∧ outsE R e cs = u
  | [], e, cs => by
    rw [extN, List.mem_singleton]
    constructor
    · rintro rfl; exact ⟨by simp, rfl⟩
    · rintro ⟨_, h⟩
      cases cs with
      | nil => rfl
      | cons c cs => cases h
  | a :: u, e, cs => by
    rw [extN, List.mem_flatMap]
    constructor
    · rintro ⟨p, hp, h⟩
      obtain ⟨ds, hd, rfl⟩ := List.mem_map.mp h
      obtain ⟨h1, h2⟩ := (mem_extN u p.2 ds).mp hd
      obtain ⟨g1, g2, g3⟩ := mem_stepsN.mp hp
      refine ⟨fun c hc => ?_, ?_⟩
      · rcases List.mem_cons.mp hc with rfl | hc
        · exact g1
        · exact h1 c hc
      · rw [outsE, g2, ← g3, h2]
    · rintro ⟨h1, h2⟩
      cases cs with
      | nil => cases h2
      | cons c ds =>
        rw [outsE] at h2
        injection h2 with h3 h4
        refine ⟨(c, nxE R e c), mem_stepsN.mpr ⟨h1 c List.mem_cons_self, h3, rfl⟩, List.mem_map.mpr ⟨ds, (mem_extN u _ ds).mpr ⟨fun x hx => h1 x (List.mem_cons_of_mem _ hx), h4⟩, rfl⟩⟩
theorem extN_len {R : Rule} {u : List Nat} {e : Nat} {cs : List Nat} (h : cs ∈ extN R e u) : cs.length = u.length := by
  have := ((mem_extN u e cs).mp h).2
  rw [← this, outsE_len]
/-! ### windows: what a piece comes to, by the path of its ends -/
theorem on_cons {R : Rule} (h : R.ok) (x : Nat) (l : List Nat) (hl : R.w ≤ l.length + 1) : on R (x :: l) = R.t.getD (num R.s ((x :: l).take R.w)) 0 :: on R l := by
  unfold on
  have e : (x :: l).length + 1 - R.w = (l.length + 1 - R.w) + 1 := by rw [List.length_cons]; omega
  rw [e, List.range_succ_eq_map, List.map_cons, List.map_map]
  rfl
theorem on_short {R : Rule} (l : List Nat) (hl : l.length + 1 ≤ R.w) : on R l = [] := by
  unfold on
  rw [show l.length + 1 - R.w = 0 by omega]
  rfl
theorem take_nx {R : Rule} (h : R.ok) (x : Nat) (l : List Nat) (c : Nat) (hl : l.length = R.w - 1) (hs : ∀ y ∈ l, y < R.s) (hc : c < R.s) :
    num R.s (x :: (l ++ [c])) % manyE R = num R.s (l ++ [c]) % manyE R := by
  rw [num_cons, List.length_append, List.length_singleton, hl]
  have e : R.w - 1 + 1 = R.w := by have := h.w1; omega
  rw [e, ← manyE_mul h, Nat.mul_comm (manyE R) R.s, ← Nat.mul_assoc, Nat.mul_comm _ (manyE R), Nat.mul_add_mod]
/-- the end behind a row of w - 1 cells and one more -/
theorem nx_num {R : Rule} (h : R.ok) : ∀ (l : List Nat) (c : Nat), l.length = R.w - 1 → (∀ y ∈ l, y < R.s) → c < R.s → nxE R (num R.s l) c = num R.s ((l ++ [c]).drop 1) := by
  intro l c hl hs hc
  unfold nxE
  rw [← num_snoc]
  cases l with
  | nil =>
    have : R.w - 1 = 0 := by simpa using hl.symm
    simp [manyE, this, num, Nat.mod_one]
  | cons x r =>
    rw [List.cons_append, num_cons, List.drop_succ_cons, List.drop_zero]
    have hr : r.length + 1 = R.w - 1 := by simpa using hl
    have hlt := num_lt (s := R.s) (r ++ [c]) (fun y hy => by
      rcases List.mem_append.mp hy with hy | hy
      · exact hs y (List.mem_cons_of_mem _ hy)
      · rw [List.mem_singleton] at hy; rw [hy]; exact hc)
    rw [List.length_append, List.length_singleton, hr] at hlt ⊢
    show (x * manyE R + _) % manyE R = _
    rw [Nat.mul_comm, Nat.mul_add_mod]
    exact Nat.mod_eq_of_lt hlt
theorem on_outs {R : Rule} (h : R.ok) : ∀ (cs l : List Nat), l.length = R.w - 1 → (∀ y ∈ l, y < R.s) → (∀ y ∈ cs, y < R.s) → on R (l ++ cs) = outsE R (num R.s l) cs
  | [], l, hl, _, _ => by
    rw [List.append_nil, outsE, on_short]
    rw [hl]; have := h.w1; omega
  | c :: cs, l, hl, hs, hc => by
    have hc0 := hc c List.mem_cons_self
    have step := on_outs h cs ((l ++ [c]).drop 1) (by rw [List.length_drop, List.length_append, List.length_singleton, hl]; omega)
      (fun y hy => by
        rcases List.mem_append.mp (List.mem_of_mem_drop hy) with hy | hy
        · exact hs y hy
        · rw [List.mem_singleton] at hy; rw [hy]; exact hc0) (fun y hy => hc y (List.mem_cons_of_mem _ hy))
    rw [outsE, nx_num h l c hl hs hc0, ← step]
    have e : l ++ c :: cs = (l ++ [c]) ++ cs := by simp
    rw [e]
    cases q : l ++ [c] with
    | nil => simp at q
    | cons x r =>
      have hr : r.length + 1 = R.w := by
        have := congrArg List.length q
        rw [List.length_append, List.length_singleton, List.length_cons, hl] at this
        have := h.w1
        omega
      rw [List.cons_append, on_cons h x (r ++ cs) (by rw [List.length_append]; omega), List.drop_succ_cons, List.drop_zero]
      congr 1
      rw [← List.cons_append, ← q, List.take_append_of_le_length (by rw [List.length_append, List.length_singleton, hl]; have := h.w1; omega), List.take_of_length_le (by rw [List.length_append, List.length_singleton, hl]; have := h.w1; omega), num_snoc]
      rfl
theorem run_num {R : Rule} (h : R.ok) : ∀ (cs l : List Nat), l.length = R.w - 1 → (∀ y ∈ l, y < R.s) → (∀ y ∈ cs, y < R.s) → runE R (num R.s l) cs = num R.s ((l ++ cs).drop cs.length)
  | [], l, _, _, _ => by simp [runE]
  | c :: cs, l, hl, hs, hc => by
    have hc0 := hc c List.mem_cons_self
    have e1 : runE R (num R.s l) (c :: cs) = runE R (nxE R (num R.s l) c) cs := rfl
    rw [e1, nx_num h l c hl hs hc0, run_num h cs ((l ++ [c]).drop 1) (by rw [List.length_drop, List.length_append, List.length_singleton, hl]; omega)
      (fun y hy => by
        rcases List.mem_append.mp (List.mem_of_mem_drop hy) with hy | hy
        · exact hs y hy
        · rw [List.mem_singleton] at hy; rw [hy]; exact hc0) (fun y hy => hc y (List.mem_cons_of_mem _ hy))]
    congr 1
    rw [List.length_cons, show l ++ c :: cs = (l ++ [c]) ++ cs by simp]
    cases q : l ++ [c] with
    | nil => simp at q
    | cons x r => rw [List.cons_append, List.drop_succ_cons, List.drop_zero, List.drop_succ_cons]
/-! ### all origins, in order -/
theorem flatMap_eq {α β : Type} {l : List α} {f g : α → List β} (h : ∀ a ∈ l, f a = g a) : l.flatMap f = l.flatMap g := by
  induction l with
  | nil => rfl
  | cons a l ih => rw [List.flatMap_cons, List.flatMap_cons, h a List.mem_cons_self, ih fun x hx => h x (List.mem_cons_of_mem _ hx)]
def rowsL (s : Nat) : Nat → List (List Nat)
  | 0 => [[]]
  | k + 1 => (rowsL s k).flatMap fun r => (List.range s).map fun c => r ++ [c]
/-- one sign on -/
def origStep (R : Rule) (rows : List (List Nat)) (a : Nat) : List (List Nat) := rows.flatMap fun r => ((List.range R.s).filter fun c => decide (outE R (num R.s (r.drop (r.length + 1 - R.w))) c = a)).map fun c => r ++ [c]
def origN (R : Rule) (u : List Nat) : List (List Nat) := u.foldl (origStep R) (rowsL R.s (R.w - 1))
def lastN (R : Rule) (r : List Nat) : Nat := num R.s (r.drop (r.length + 1 - R.w))
theorem mem_rowsL {s : Nat} : ∀ (k : Nat) (r : List Nat), r ∈ rowsL s k ↔ r.length = k ∧ ∀ c ∈ r, c < s
  | 0, r => by
    rw [rowsL, List.mem_singleton]
    constructor
    · rintro rfl; exact ⟨rfl, by simp⟩
    · rintro ⟨h, _⟩; exact List.length_eq_zero_iff.mp h
  | k + 1, r => by
    rw [rowsL, List.mem_flatMap]
    constructor
    · rintro ⟨q, hq, h⟩
      obtain ⟨c, hc, rfl⟩ := List.mem_map.mp h
      obtain ⟨h1, h2⟩ := (mem_rowsL k q).mp hq
      refine ⟨by rw [List.length_append, h1, List.length_singleton], fun x hx => ?_⟩
      rcases List.mem_append.mp hx with hx | hx
      · exact h2 x hx
      · rw [List.mem_singleton] at hx; rw [hx]; exact List.mem_range.mp hc
    · rintro ⟨h1, h2⟩
      rcases List.eq_nil_or_concat r with rfl | ⟨v, a, rfl⟩
      · simp at h1
      · rw [List.concat_eq_append] at h1 h2 ⊢
        refine ⟨v, (mem_rowsL k v).mpr ⟨by simpa using h1, fun c hc => h2 c (List.mem_append_left _ hc)⟩, List.mem_map.mpr ⟨a, List.mem_range.mpr (h2 a (by simp)), rfl⟩⟩
theorem range_mul (m s : Nat) : List.range (m * s) = (List.range m).flatMap fun e => (List.range s).map fun c => e * s + c := by
  induction m with
  | zero => simp
  | succ m ih =>
    rw [List.range_succ, List.flatMap_append, ← ih, Nat.succ_mul, List.range_add]
    simp
theorem cells_snoc {s : Nat} (hs : 0 < s) : ∀ (k e c : Nat), c < s → cells s (k + 1) (e * s + c) = cells s k e ++ [c]
  | 0, e, c, hc => by
    show [(e * s + c) / s ^ 0 % s] = [c]
    rw [Nat.pow_zero, Nat.div_one, Nat.mul_comm, Nat.mul_add_mod, Nat.mod_eq_of_lt hc]
  | k + 1, e, c, hc => by
    rw [cells, cells_snoc hs k e c hc, cells, List.cons_append]
    congr 2
    rw [Nat.pow_succ, Nat.mul_comm (s ^ k), ← Nat.div_div_eq_div_mul, Nat.mul_comm e s, Nat.mul_add_div hs, Nat.div_eq_of_lt hc, Nat.add_zero]
theorem rowsL_cells {s : Nat} (hs : 0 < s) : ∀ k, rowsL s k = (List.range (s ^ k)).map (cells s k)
  | 0 => rfl
  | k + 1 => by
    rw [rowsL, rowsL_cells hs k, Nat.pow_succ, range_mul, List.flatMap_map, List.map_flatMap]
    congr 1
    funext e
    rw [List.map_map]
    refine List.map_congr_left fun c hc => ?_
    exact (cells_snoc hs k e c (List.mem_range.mp hc)).symm
theorem origN_snoc (R : Rule) (u : List Nat) (a : Nat) : origN R (u ++ [a]) = origStep R (origN R u) a := by simp [origN]
theorem lastN_snoc {R : Rule} (h : R.ok) {r : List Nat} {c : Nat} (hl : R.w - 1 ≤ r.length) (hs : ∀ y ∈ r, y < R.s) (hc : c < R.s) : lastN R (r ++ [c]) = nxE R (lastN R r) c := by
  unfold lastN
  rw [nx_num h _ c (by rw [List.length_drop]; have := h.w1; omega) (fun y hy => hs y (List.mem_of_mem_drop hy)) hc]
  congr 1
  rw [List.length_append, List.length_singleton, show r.length + 1 + 1 - R.w = (r.length + 1 - R.w) + 1 by have := h.w1; omega, ← List.drop_append_of_le_length (by have := h.w1; omega), List.drop_drop]
/-- the law's list is all that the paths tell, in order -/
theorem orig_fold {R : Rule} (h : R.ok) : ∀ (u : List Nat) (L : List (List Nat)), (∀ r ∈ L, R.w - 1 ≤ r.length ∧ ∀ y ∈ r, y < R.s) → u.foldl (origStep R) L = L.flatMap fun r => (extN R (lastN R r) u).map (r ++ ·)
  | [], L, _ => by
    simp [extN]
  | a :: u, L, hL => by
    have hL2 : ∀ r ∈ origStep R L a, R.w - 1 ≤ r.length ∧ ∀ y ∈ r, y < R.s := fun r hr => by
      obtain ⟨q, hq, hr⟩ := List.mem_flatMap.mp hr
      obtain ⟨c, hc, rfl⟩ := List.mem_map.mp hr
      obtain ⟨h1, h2⟩ := hL q hq
      refine ⟨by rw [List.length_append]; omega, fun y hy => ?_⟩
      rcases List.mem_append.mp hy with hy | hy
      · exact h2 y hy
      · rw [List.mem_singleton] at hy; rw [hy]; exact List.mem_range.mp (List.mem_filter.mp hc).1
    rw [List.foldl_cons, orig_fold h u _ hL2]
    unfold origStep
    rw [List.flatMap_assoc]
    refine flatMap_eq fun r hr => ?_
    obtain ⟨h1, h2⟩ := hL r hr
    rw [extN, List.flatMap_map, List.map_flatMap]
    unfold stepsN
    rw [List.flatMap_map]
    refine flatMap_eq fun c hc => ?_
    have hc' : c < R.s := List.mem_range.mp (List.mem_filter.mp hc).1
    rw [lastN_snoc h h1 h2 hc', List.map_map]
    refine List.map_congr_left fun x _ => ?_
    simp
theorem lastN_row {R : Rule} {r : List Nat} (hl : r.length = R.w - 1) (hw : 1 ≤ R.w) : lastN R r = num R.s r := by
  unfold lastN
  rw [show r.length + 1 - R.w = 0 by omega, List.drop_zero]
theorem origN_ext {R : Rule} (h : R.ok) (u : List Nat) : origN R u = (List.range (manyE R)).flatMap fun e => (extN R e u).map (cells R.s (R.w - 1) e ++ ·) := by
  have hs : 0 < R.s := by have := h.s2; omega
  unfold origN
  rw [orig_fold h u _ fun r hr => ⟨by rw [((mem_rowsL _ r).mp hr).1]; exact Nat.le_refl _, ((mem_rowsL _ r).mp hr).2⟩, rowsL_cells hs, List.flatMap_map]
  refine flatMap_eq fun e he => ?_
  rw [lastN_row (cells_len _ _ _) h.w1, num_cells hs _ _ (List.mem_range.mp he)]
/-- what an origin is -/
theorem mem_origN {R : Rule} (h : R.ok) {u x : List Nat} : x ∈ origN R u ↔ x.length = u.length + (R.w - 1) ∧ (∀ c ∈ x, c < R.s) ∧ on R x = u := by
  have hs : 0 < R.s := by have := h.s2; omega
  rw [origN_ext h, List.mem_flatMap]
  constructor
  · rintro ⟨e, he, hx⟩
    obtain ⟨cs, hc, rfl⟩ := List.mem_map.mp hx
    obtain ⟨h1, h2⟩ := (mem_extN u e cs).mp hc
    have cl := cells_lt hs (R.w - 1) e
    refine ⟨by rw [List.length_append, cells_len, extN_len hc, Nat.add_comm], fun c hc => ?_, ?_⟩
    · rcases List.mem_append.mp hc with hc | hc
      · exact cl c hc
      · exact h1 c hc
    · rw [on_outs h cs _ (cells_len _ _ _) cl h1, num_cells hs _ _ (List.mem_range.mp he), h2]
  · rintro ⟨h1, h2, h3⟩
    have ht : (x.take (R.w - 1)).length = R.w - 1 := by rw [List.length_take]; omega
    have hts : ∀ c ∈ x.take (R.w - 1), c < R.s := fun c hc => h2 c (List.mem_of_mem_take hc)
    have hn := num_lt (s := R.s) _ hts
    rw [ht] at hn
    have hx : x = x.take (R.w - 1) ++ x.drop (R.w - 1) := (List.take_append_drop _ _).symm
    have hcell : cells R.s (R.w - 1) (num R.s (x.take (R.w - 1))) = x.take (R.w - 1) := by
      have := cells_num (x.take (R.w - 1)) hts
      rw [ht] at this
      exact this
    refine ⟨num R.s (x.take (R.w - 1)), List.mem_range.mpr hn, List.mem_map.mpr ⟨x.drop (R.w - 1), (mem_extN u _ _).mpr ⟨fun c hc => h2 c (List.mem_of_mem_drop hc), ?_⟩, ?_⟩⟩
    · rw [← on_outs h (x.drop (R.w - 1)) (x.take (R.w - 1)) ht hts fun c hc => h2 c (List.mem_of_mem_drop hc), ← hx, h3]
    · rw [hcell, ← hx]

/-! ### the least origin -/
/-- rows in the order of lists -/
def nlt : List Nat → List Nat → Bool
  | [], [] => false
  | [], _ :: _ => true
  | _ :: _, [] => false
  | x :: xs, y :: ys => if x = y then nlt xs ys else decide (x < y)
theorem nlt_asym : ∀ (x y : List Nat), nlt x y = true → nlt y x = false
  | [], [], h => by simp [nlt] at h
  | [], _ :: _, _ => rfl
  | _ :: _, [], h => by simp [nlt] at h
  | a :: x, b :: y, h => by
    unfold nlt at h ⊢
    by_cases e : a = b
    · rw [if_pos e] at h
      rw [if_pos e.symm]
      exact nlt_asym x y h
    · rw [if_neg e, decide_eq_true_eq] at h
      rw [if_neg (fun z => e z.symm), decide_eq_false_iff_not]
      omega
theorem nlt_app (x y : List Nat) : ∀ r : List Nat, nlt (r ++ x) (r ++ y) = nlt x y
  | [] => rfl
  | a :: r => by
    rw [List.cons_append, List.cons_append, nlt, if_pos rfl, nlt_app x y r]
theorem nlt_left : ∀ (a b x y : List Nat), a.length = b.length → nlt a b = true → nlt (a ++ x) (b ++ y) = true
  | [], [], _, _, _, h => by simp [nlt] at h
  | [], _ :: _, _, _, h, _ => by simp at h
  | _ :: _, [], _, _, h, _ => by simp at h
  | a :: r, b :: q, x, y, hl, h => by
    rw [List.cons_append, List.cons_append]
    unfold nlt at h ⊢
    by_cases e : a = b
    · rw [if_pos e] at h ⊢
      exact nlt_left r q x y (by simpa using hl) h
    · rw [if_neg e] at h ⊢
      exact h
def SLt (a b : List Nat) : Prop := a.length = b.length ∧ nlt a b = true
theorem rowsL_sorted {s : Nat} : ∀ k, (rowsL s k).Pairwise SLt
  | 0 => by rw [rowsL]; exact List.pairwise_singleton _ _
  | k + 1 => by
    rw [rowsL, List.pairwise_flatMap]
    refine ⟨fun r _ => ?_, (rowsL_sorted k).imp fun {a b} hab x hx y hy => ?_⟩
    · rw [List.pairwise_map]
      refine List.pairwise_lt_range.imp fun {a b} hab => ⟨by simp, ?_⟩
      rw [nlt_app, nlt, if_neg (by omega), decide_eq_true_eq]
      exact hab
    · obtain ⟨c, _, rfl⟩ := List.mem_map.mp hx
      obtain ⟨d, _, rfl⟩ := List.mem_map.mp hy
      exact ⟨by simp [hab.1], nlt_left _ _ _ _ hab.1 hab.2⟩
theorem origStep_sorted {R : Rule} {L : List (List Nat)} {a : Nat} (h : L.Pairwise SLt) : (origStep R L a).Pairwise SLt := by
  unfold origStep
  rw [List.pairwise_flatMap]
  refine ⟨fun r _ => ?_, h.imp fun {a b} hab x hx y hy => ?_⟩
  · rw [List.pairwise_map]
    refine (List.pairwise_lt_range.filter _).imp fun {a b} hab => ⟨by simp, ?_⟩
    rw [nlt_app, nlt, if_neg (by omega), decide_eq_true_eq]
    exact hab
  · obtain ⟨c, _, rfl⟩ := List.mem_map.mp hx
    obtain ⟨d, _, rfl⟩ := List.mem_map.mp hy
    exact ⟨by simp [hab.1], nlt_left _ _ _ _ hab.1 hab.2⟩
theorem origN_sorted (R : Rule) (u : List Nat) : (origN R u).Pairwise SLt := by
  have key : ∀ (u : List Nat) (L : List (List Nat)), L.Pairwise SLt → (u.foldl (origStep R) L).Pairwise SLt := by
    intro u
    induction u with
    | nil => intro L h; exact h
    | cons a u ih => intro L h; exact ih _ (origStep_sorted h)
  exact key u _ (rowsL_sorted _)
theorem headD_lead (R : Rule) (u : List Nat) : ∀ e, e ∈ (leadN R u).headD [] ↔ e < manyE R ∧ extN R e u ≠ [] := by
  induction u with
  | nil =>
    intro e
    show e ∈ List.range (manyE R) ↔ _
    rw [List.mem_range]
    simp [extN]
  | cons a u ih =>
    intro e
    show e ∈ goodN R ((leadN R u).headD []) a ↔ _
    unfold goodN
    rw [List.mem_filter, List.mem_range, List.any_eq_true]
    refine and_congr_right fun he => ?_
    rw [extN]
    constructor
    · rintro ⟨p, hp, h2⟩ z
      rw [List.flatMap_eq_nil_iff] at z
      have := z p hp
      rw [List.map_eq_nil_iff] at this
      exact ((ih p.2).mp (of_decide_eq_true h2)).2 this
    · intro z
      rw [ne_eq, List.flatMap_eq_nil_iff] at z
      obtain ⟨p, hp⟩ := Classical.not_forall.mp z
      obtain ⟨hp, h3⟩ := Classical.not_imp.mp hp
      rw [List.map_eq_nil_iff] at h3
      refine ⟨p, hp, decide_eq_true ((ih p.2).mpr ⟨?_, h3⟩)⟩
      obtain ⟨c, _, rfl⟩ := List.mem_map.mp hp
      exact Nat.mod_lt _ (by unfold manyE at he ⊢; omega)
theorem head_flatMap {α β : Type} (f : α → List β) (g : α → Bool) : ∀ l : List α, (∀ a ∈ l, g a = true ↔ f a ≠ []) → (l.flatMap f).head? = ((l.filter g).head?).bind fun a => (f a).head?
  | [], _ => rfl
  | a :: l, h => by
    have ih := head_flatMap f g l fun x hx => h x (List.mem_cons_of_mem _ hx)
    rw [List.flatMap_cons, List.filter_cons]
    by_cases hg : g a = true
    · rw [if_pos hg]
      have := (h a List.mem_cons_self).mp hg
      cases q : f a with
      | nil => exact absurd q this
      | cons x y => simp [q]
    · rw [if_neg hg]
      have : f a = [] := by
        cases q : f a with
        | nil => rfl
        | cons x y => exact absurd ((h a List.mem_cons_self).mpr (by rw [q]; simp)) hg
      rw [this, List.nil_append, ih]
theorem ext_head {R : Rule} : ∀ (u : List Nat) (e : Nat), e ∈ (leadN R u).headD [] → (extN R e u).head? = some (wayN R u e)
  | [], e, _ => rfl
  | a :: u, e, h => by
    obtain ⟨m1, m2, m3⟩ := stepOn_mem (goodN_step h)
    rw [extN, head_flatMap _ (fun p => decide (p.2 ∈ (leadN R u).headD [])) _ (fun p hp => ?_), m3, Option.bind_some, wayN, List.head?_map, ext_head u _ m2]
    · rfl
    · rw [decide_eq_true_eq, headD_lead]
      constructor
      · rintro ⟨_, h2⟩ z
        exact h2 (List.map_eq_nil_iff.mp z)
      · intro h2
        have he := ((headD_lead R (a :: u) e).mp h).1
        obtain ⟨c, _, rfl⟩ := List.mem_map.mp hp
        exact ⟨Nat.mod_lt _ (by omega), fun z => h2 (List.map_eq_nil_iff.mpr z)⟩
theorem lead_filter (R : Rule) (u : List Nat) : (leadN R u).headD [] = (List.range (manyE R)).filter fun e => decide (extN R e u ≠ []) := by
  have key : ∀ p : Nat → Bool, ((leadN R u).headD [] = (List.range (manyE R)).filter p) → (leadN R u).headD [] = (List.range (manyE R)).filter fun e => decide (extN R e u ≠ []) := by
    intro p hp
    rw [hp]
    refine List.filter_congr fun e he => ?_
    have h2 : e ∈ (leadN R u).headD [] ↔ p e = true := by rw [hp, List.mem_filter]; exact ⟨fun z => z.2, fun z => ⟨he, z⟩⟩
    rw [Bool.eq_iff_iff, ← h2, headD_lead, decide_eq_true_eq]
    exact ⟨fun z => z.2, fun z => ⟨List.mem_range.mp he, z⟩⟩
  cases u with
  | nil => exact key (fun _ => true) (by show List.range _ = _; rw [List.filter_eq_self.mpr fun _ _ => rfl])
  | cons a u => exact key _ rfl
/-- the program's least origin is the first of all -/
theorem leastN_head {R : Rule} (h : R.ok) (u : List Nat) : leastN R u = (origN R u).head? := by
  rw [origN_ext h, head_flatMap _ (fun e => decide (extN R e u ≠ [])) _ (fun e _ => by rw [decide_eq_true_eq, ne_eq, ne_eq, List.map_eq_nil_iff]), ← lead_filter]
  unfold leastN
  cases q : (leadN R u).headD [] with
  | nil => rfl
  | cons e r =>
    rw [List.head?_cons, Option.bind_some, List.head?_map, ext_head u e (by rw [q]; exact List.mem_cons_self)]
    rfl
/-! ### the numbers of the last cells, how many -/
def lastsN (R : Rule) (u : List Nat) : List Nat := (origN R u).map (lastN R)
theorem origN_ok {R : Rule} (h : R.ok) (u : List Nat) : ∀ r ∈ origN R u, R.w - 1 ≤ r.length ∧ ∀ y ∈ r, y < R.s := fun r hr => by
  obtain ⟨h1, h2, _⟩ := (mem_origN h).mp hr
  exact ⟨by omega, h2⟩
theorem lastsN_snoc {R : Rule} (h : R.ok) (u : List Nat) (a : Nat) : lastsN R (u ++ [a]) = (lastsN R u).flatMap fun e => (stepsN R e a).map (·.2) := by
  unfold lastsN
  rw [origN_snoc]
  unfold origStep
  rw [List.map_flatMap, List.flatMap_map]
  refine flatMap_eq fun r hr => ?_
  obtain ⟨h1, h2⟩ := origN_ok h u r hr
  unfold stepsN
  rw [List.map_map, List.map_map]
  refine List.map_congr_left fun c hc => ?_
  exact lastN_snoc h h1 h2 (List.mem_range.mp (List.mem_filter.mp hc).1)
theorem lastsN_nil {R : Rule} (h : R.ok) : lastsN R [] = List.range (manyE R) := by
  have hs : 0 < R.s := by have := h.s2; omega
  unfold lastsN
  show (rowsL R.s (R.w - 1)).map (lastN R) = _
  rw [rowsL_cells hs, List.map_map]
  have : ∀ e ∈ List.range (R.s ^ (R.w - 1)), (lastN R ∘ cells R.s (R.w - 1)) e = id e := fun e he => by
    show lastN R (cells R.s (R.w - 1) e) = e
    rw [lastN_row (cells_len _ _ _) h.w1, num_cells hs _ _ (List.mem_range.mp he)]
  rw [List.map_congr_left this, List.map_id]
  rfl
theorem lastsN_lt {R : Rule} (h : R.ok) (u : List Nat) : ∀ e ∈ lastsN R u, e < manyE R := by
  rcases List.eq_nil_or_concat u with rfl | ⟨v, a, rfl⟩
  · intro e he; rw [lastsN_nil h] at he; exact List.mem_range.mp he
  · intro e he
    rw [List.concat_eq_append, lastsN_snoc h] at he
    obtain ⟨q, _, hq⟩ := List.mem_flatMap.mp he
    obtain ⟨p, hp, rfl⟩ := List.mem_map.mp hq
    exact (stepsN_lt h p hp).2
theorem snocInd {α : Type} {motive : List α → Prop} (h0 : motive []) (h1 : ∀ l a, motive l → motive (l ++ [a])) (l : List α) : motive l := by
  have key : ∀ r : List α, motive r.reverse := by
    intro r
    induction r with
    | nil => exact h0
    | cons a r ih => rw [List.reverse_cons]; exact h1 _ _ ih
  have := key l.reverse
  rwa [List.reverse_reverse] at this
theorem mem_endsN {R : Rule} (h : R.ok) (u : List Nat) : ∀ o, o ∈ endsN R u ↔ o ∈ lastsN R u := by
  induction u using snocInd with
  | h0 => intro o; rw [lastsN_nil h]; exact Iff.rfl
  | h1 u a ih =>
    intro o
    rw [endsN_snoc, mem_furtherN h, lastsN_snoc h, List.mem_flatMap]
    constructor
    · rintro ⟨e, he, p, hp, rfl⟩
      exact ⟨e, (ih e).mp he, List.mem_map.mpr ⟨p, hp, rfl⟩⟩
    · rintro ⟨e, he, ho⟩
      obtain ⟨p, hp, rfl⟩ := List.mem_map.mp ho
      exact ⟨e, (ih e).mpr he, p, hp, rfl⟩
/-- a list of the numbers below M by what it has -/
theorem sorted_filter {M : Nat} {l : List Nat} (h : l.Pairwise (· < ·)) (hb : ∀ x ∈ l, x < M) : l = (List.range M).filter fun o => decide (o ∈ l) := by
  have h2 : ((List.range M).filter fun o => decide (o ∈ l)).Pairwise (· < ·) := List.pairwise_lt_range.filter _
  refine List.Perm.eq_of_pairwise (le := fun a b : Nat => a < b) (fun a b _ _ h1 h2 => absurd h1 (by omega)) h h2 ?_
  refine (List.perm_ext_iff_of_nodup (h.imp fun h => by omega) (h2.imp fun h => by omega)).mpr fun o => ?_
  rw [List.mem_filter, List.mem_range, decide_eq_true_eq]
  exact ⟨fun z => ⟨hb o z, z⟩, fun z => z.2⟩
theorem endsN_sorted (R : Rule) (u : List Nat) : (endsN R u).Pairwise (· < ·) := by
  rcases List.eq_nil_or_concat u with rfl | ⟨v, a, rfl⟩
  · exact List.pairwise_lt_range
  · rw [List.concat_eq_append, endsN_snoc]
    unfold furtherN
    exact List.pairwise_lt_range.filter _
/-- two rising lists that have the same are the same -/
theorem sorted_eq {l m : List Nat} (h : l.Pairwise (· < ·)) (h2 : m.Pairwise (· < ·)) (e : ∀ x, x ∈ l ↔ x ∈ m) : l = m :=
  List.Perm.eq_of_pairwise (le := fun a b : Nat => a < b) (fun a b _ _ h1 h2 => absurd h1 (by omega)) h h2 ((List.perm_ext_iff_of_nodup (h.imp fun h => by omega) (h2.imp fun h => by omega)).mpr e)
theorem addTo_at (c : Nat) : ∀ (xs f : List Nat) (o : Nat), o < f.length → (xs.foldl (addTo c) f).getD o 0 = f.getD o 0 + c * xs.count o
  | [], f, o, _ => by simp
  | x :: xs, f, o, ho => by
    rw [List.foldl_cons, addTo_at c xs _ o (by rw [addTo_len]; exact ho)]
    unfold addTo
    by_cases e : x = o
    · subst e
      rw [List.getD_eq_getElem?_getD, List.getElem?_set_self ho, Option.getD_some, List.count_cons_self, Nat.mul_add, Nat.mul_one, Nat.add_assoc, Nat.add_comm c]
    · rw [List.getD_eq_getElem?_getD, List.getElem?_set_ne e, ← List.getD_eq_getElem?_getD, List.count_cons_of_ne e]
theorem cstep_at (R : Rule) (a : Nat) : ∀ (qs : List (Nat × Nat)) (f : List Nat) (o : Nat), o < f.length → (qs.foldl (cstepE R a) f).getD o 0 = f.getD o 0 + (qs.map fun q => q.2 * ((stepsN R q.1 a).map (·.2)).count o).sum
  | [], f, o, _ => by simp
  | q :: qs, f, o, ho => by
    rw [List.foldl_cons, cstep_at R a qs _ o (by rw [cstepE_len]; exact ho), List.map_cons, List.sum_cons, ← Nat.add_assoc]
    congr 1
    exact addTo_at q.2 _ f o ho
theorem sum_count {M : Nat} (g : Nat → Nat) : ∀ l : List Nat, (∀ x ∈ l, x < M) → ((List.range M).map fun q => l.count q * g q).sum = (l.map g).sum
  | [], _ => by
    simp only [List.count_nil, Nat.zero_mul, List.map_nil, List.sum_nil]
    induction List.range M with
    | nil => rfl
    | cons a r ih => rw [List.map_cons, List.sum_cons, ih]; rfl
  | x :: l, h => by
    have hx := h x List.mem_cons_self
    have ih := sum_count g l fun y hy => h y (List.mem_cons_of_mem _ hy)
    rw [List.map_cons, List.sum_cons, ← ih]
    have key : ∀ r : List Nat, r.Nodup → (r.map fun q => (x :: l).count q * g q).sum = (if x ∈ r then g x else 0) + (r.map fun q => l.count q * g q).sum := by
      intro r
      induction r with
      | nil => intro _; simp
      | cons b r ih2 =>
        intro hn
        rw [List.nodup_cons] at hn
        rw [List.map_cons, List.sum_cons, ih2 hn.2, List.map_cons, List.sum_cons]
        by_cases e : x = b
        · subst e
          rw [if_pos List.mem_cons_self, if_neg hn.1, List.count_cons_self, Nat.add_mul]
          omega
        · have e2 : (x ∈ b :: r) ↔ x ∈ r := by simp [e]
          rw [List.count_cons_of_ne e]
          by_cases hm : x ∈ r
          · rw [if_pos hm, if_pos (e2.mpr hm)]; omega
          · rw [if_neg hm, if_neg (fun z => hm (e2.mp z))]; omega
    rw [key _ List.nodup_range, if_pos (List.mem_range.mpr hx)]
theorem list_range_getD (l : List Nat) : l = (List.range l.length).map fun o => l.getD o 0 := by
  apply List.ext_getElem?
  intro i
  rw [List.getElem?_map]
  by_cases h : i < l.length
  · rw [List.getElem?_range h]
    simp [h]
  · rw [List.getElem?_eq_none (by omega), List.getElem?_eq_none (by simp; omega)]
    rfl
theorem cntN_count {R : Rule} (h : R.ok) (u : List Nat) : cntN R u = (List.range (manyE R)).map fun o => (lastsN R u).count o := by
  induction u using snocInd with
  | h0 =>
    rw [lastsN_nil h]
    show List.replicate (manyE R) 1 = _
    have : ∀ o ∈ List.range (manyE R), (List.range (manyE R)).count o = 1 := fun o ho => List.nodup_range.count ▸ by rw [if_pos ho]
    rw [List.map_congr_left this]
    refine List.ext_getElem (by simp) fun i h1 h2 => ?_
    rw [List.getElem_replicate, List.getElem_map]
  | h1 u a ih =>
    rw [cntN_snoc]
    have hl : (cstep R (cntN R u) a).length = manyE R := by rw [cstep_len, cntN_len]
    rw [list_range_getD (cstep R (cntN R u) a), hl]
    refine List.map_congr_left fun o ho => ?_
    have ho := List.mem_range.mp ho
    unfold cstep
    rw [cstep_at R a _ _ o (by rw [List.length_replicate, cntN_len]; exact ho)]
    have e0 : (List.replicate (cntN R u).length 0).getD o 0 = 0 := by
      rw [List.getD_eq_getElem?_getD, List.getElem?_replicate]
      split <;> rfl
    rw [e0, Nat.zero_add, List.map_map]
    have e1 : ((cntN R u).zipIdx.map ((fun q : Nat × Nat => q.2 * ((stepsN R q.1 a).map (·.2)).count o) ∘ fun q => (q.2, q.1))) = (List.range (manyE R)).map fun q => (lastsN R u).count q * ((stepsN R q a).map (·.2)).count o := by
      rw [ih]
      apply List.ext_getElem?
      intro i
      rw [List.getElem?_map, List.getElem?_zipIdx, List.getElem?_map, List.getElem?_map]
      by_cases hi : i < manyE R
      · rw [List.getElem?_range hi]
        simp
      · rw [List.getElem?_eq_none (by simp; omega)]
        rfl
    rw [e1, sum_count _ _ (lastsN_lt h u), lastsN_snoc h, List.count_flatMap]
    rfl
/-- as many as there are origins -/
theorem cntN_sum {R : Rule} (h : R.ok) (u : List Nat) : (cntN R u).sum = (origN R u).length := by
  have := sum_count (M := manyE R) (fun _ => 1) (lastsN R u) (lastsN_lt h u)
  simp only [Nat.mul_one] at this
  rw [cntN_count h, this]
  unfold lastsN
  rw [List.map_map]
  have : ∀ l : List (List Nat), (l.map ((fun _ => 1) ∘ lastN R)).sum = l.length := by
    intro l
    induction l with
    | nil => rfl
    | cons a l ih => rw [List.map_cons, List.sum_cons, ih, List.length_cons, Nat.add_comm]; rfl
  exact this _
theorem ends_nil {R : Rule} (h : R.ok) (u : List Nat) : endsN R u = [] ↔ origN R u = [] := by
  constructor
  · intro e
    cases q : origN R u with
    | nil => rfl
    | cons x r =>
      have : lastN R x ∈ endsN R u := (mem_endsN h u _).mpr (List.mem_map.mpr ⟨x, by rw [q]; exact List.mem_cons_self, rfl⟩)
      rw [e] at this
      cases this
  · intro e
    cases q : endsN R u with
    | nil => rfl
    | cons o r =>
      have : o ∈ lastsN R u := (mem_endsN h u o).mp (by rw [q]; exact List.mem_cons_self)
      unfold lastsN at this
      rw [e] at this
      cases this
theorem steps_flat_len (R : Rule) (es : List Nat) (a : Nat) : (es.flatMap fun e => (stepsN R e a).map (·.2)).length ≤ es.length * R.s := by
  rw [List.length_flatMap]
  induction es with
  | nil => simp
  | cons r L ih =>
    rw [List.map_cons, List.sum_cons, List.length_cons, Nat.succ_mul, List.length_map]
    have := stepsN_len R r a
    omega
theorem rowsL_len (s : Nat) : ∀ k, (rowsL s k).length = s ^ k
  | 0 => rfl
  | k + 1 => by
    rw [rowsL, List.length_flatMap]
    have : ∀ L : List (List Nat), (L.map fun r => ((List.range s).map fun c => r ++ [c]).length).sum = L.length * s := by
      intro L
      induction L with
      | nil => simp
      | cons r L ih => rw [List.map_cons, List.sum_cons, ih, List.length_cons, Nat.succ_mul, List.length_map, List.length_range, Nat.add_comm]
    rw [this, rowsL_len s k, Nat.pow_succ]

/-! ### what is no piece -/
def moresQ (s far : Nat) : List PyData := [.int (-1), nI s, nI (s + far), .bool true, .none, .str "0", .list [nI 0], .dict []]
def othersP (l : List Nat) : List PyData := [nT l, .str "01", .none, .dict [], nI 5, nT [0, 1], .bool true]
def oddQ (R : Rule) (l : List Nat) (cell : Nat) : PyData :=
  if 0 < cell % 3 then .list (((l.take (cell % (l.length + 1))).map nI) ++ [(moresQ R.s (cell / 16 % 1000000000)).getD (cell / 2 % 8) .none] ++ ((l.drop (cell % (l.length + 1))).map nI))
  else (othersP l).getD (cell / 3 % 7) .none
theorem among_no {s : Nat} {i : Int} (hi : i < 0 ∨ (s : Int) - 1 < i) : among (.int i) 0 ((s : Int) - 1) = false := by
  show (decide (0 ≤ i) && decide (i ≤ (s : Int) - 1)) = false
  rcases hi with hi | hi
  · rw [decide_eq_false (by omega)]; rfl
  · rw [decide_eq_false (p := i ≤ (s : Int) - 1) (by omega)]; simp
theorem moresQ_no {s far : Nat} (hs : 0 < s) : ∀ x ∈ moresQ s far, among x 0 ((s : Int) - 1) = false := by
  intro x hx
  simp only [moresQ, List.mem_cons, List.not_mem_nil, or_false] at hx
  rcases hx with rfl | rfl | rfl | rfl | rfl | rfl | rfl | rfl
  · exact among_no (.inl (by decide))
  · exact among_no (.inr (by omega))
  · exact among_no (.inr (by omega))
  · rfl
  · rfl
  · rfl
  · rfl
  · rfl
structure NoPiece (s : Nat) (x : PyData) : Prop where
  pl : plainD x
  sz : ∀ l, x = .list l → l.length ≤ 1000000
  no : pieceD s x = false
theorem oddQ_no {R : Rule} (h : R.ok) (l : List Nat) (hz : l.length ≤ 10000) (cell : Nat) : NoPiece R.s (oddQ R l cell) := by
  have hs := h.s2
  unfold oddQ
  split
  · refine ⟨fun _ => ⟨_, rfl⟩, fun l' e => ?_, ?_⟩
    · cases e
      simp only [List.length_append, List.length_map, List.length_take, List.length_drop, List.length_singleton]
      omega
    · have hq : cell / 2 % 8 < (moresQ R.s (cell / 16 % 1000000000)).length := Nat.mod_lt _ (by decide : 0 < 8)
      have hm := moresQ_no (s := R.s) (far := cell / 16 % 1000000000) (by omega) _ (List.getElem_mem hq)
      show (List.all _ fun y => among y 0 ((R.s : Int) - 1)) = false
      rw [List.all_eq_false]
      refine ⟨(moresQ R.s (cell / 16 % 1000000000)).getD (cell / 2 % 8) .none, by simp, ?_⟩
      rw [List.getD, List.getElem?_eq_getElem hq]
      show ¬ among _ 0 _ = true
      rw [Option.getD_some, hm]
      simp
  · have hq : cell / 3 % 7 < (othersP l).length := Nat.mod_lt _ (by decide : 0 < 7)
    have key : ∀ x ∈ othersP l, NoPiece R.s x := by
      intro x hx
      simp only [othersP, List.mem_cons, List.not_mem_nil, or_false] at hx
      rcases hx with rfl | rfl | rfl | rfl | rfl | rfl | rfl <;> exact ⟨(fun z => by cases z), (fun l e => by cases e), rfl⟩
    rw [List.getD, List.getElem?_eq_getElem hq]
    exact key _ (List.getElem_mem hq)

/-! ### going from ends to ends -/
abbrev Met := List (List Nat × List Nat)
def keysM (m : Met) : List (List Nat) := m.map (·.1)
def putM (m : Met) (es u : List Nat) : Met := if es ∈ keysM m then m else m ++ [(es, u)]
def growM (R : Rule) (es u : List Nat) (m : Met) (sg : Nat) : Met := putM m (furtherN R es sg) (u ++ [sg])
def stepM (R : Rule) (m : Met) (i : Nat) : Met := match m[i]? with
  | none => m
  | some p => (List.range R.s).foldl (growM R p.1 p.2) m
def runM (R : Rule) : Nat → Met
  | 0 => [(List.range (manyE R), [])]
  | i + 1 => stepM R (runM R i) i
@[irreducible] def finM (R : Rule) : Met := runM R 300
theorem finM_eq (R : Rule) : finM R = runM R 300 := by unfold finM; rfl
def lookM (m : Met) (es : List Nat) : Option (List Nat) := (m.find? fun p => decide (p.1 = es)).map (·.2)
theorem putM_pre (m : Met) (es u : List Nat) : m <+: putM m es u := by
  unfold putM
  split
  · exact List.prefix_refl _
  · exact List.prefix_append _ _
theorem grow_pre (R : Rule) (es u : List Nat) : ∀ (l : List Nat) (m : Met), m <+: l.foldl (growM R es u) m
  | [], m => List.prefix_refl _
  | a :: l, m => (putM_pre m _ _).trans (grow_pre R es u l (growM R es u m a))
theorem stepM_pre (R : Rule) (m : Met) (i : Nat) : m <+: stepM R m i := by
  unfold stepM
  split
  · exact List.prefix_refl _
  · exact grow_pre R _ _ _ m
theorem runM_pre (R : Rule) (i : Nat) : ∀ k, runM R i <+: runM R (i + k)
  | 0 => List.prefix_refl _
  | k + 1 => (runM_pre R i k).trans (stepM_pre R _ _)
theorem runM_pre' (R : Rule) {i j : Nat} (h : i ≤ j) : runM R i <+: runM R j := by
  have := runM_pre R i (j - i)
  rwa [Nat.add_sub_cancel' h] at this
theorem finM_pre (R : Rule) {i : Nat} (h : i ≤ 300) : runM R i <+: finM R := by rw [finM_eq]; exact runM_pre' R h
theorem pre_get {α : Type} {l l' : List α} (h : l <+: l') {i : Nat} (hi : i < l.length) : l[i]? = l'[i]? := by
  obtain ⟨t, rfl⟩ := h
  rw [List.getElem?_append_left hi]
theorem runM_stop (R : Rule) {i : Nat} (h : (runM R i).length ≤ i) : ∀ k, runM R (i + k) = runM R i
  | 0 => rfl
  | k + 1 => by
    have ih := runM_stop R h k
    show stepM R (runM R (i + k)) (i + k) = _
    rw [ih]
    unfold stepM
    rw [List.getElem?_eq_none (by omega)]
theorem putM_nodup {m : Met} {es u : List Nat} (h : (keysM m).Nodup) : (keysM (putM m es u)).Nodup := by
  unfold putM
  split
  · exact h
  · rename_i hn
    unfold keysM at h hn ⊢
    rw [List.map_append, List.nodup_append]
    exact ⟨h, by simp, fun a ha b hb => by
      simp at hb
      subst hb
      intro z
      exact hn (z ▸ ha)⟩
theorem fold_inv {α : Type} {P : Met → Prop} {f : Met → α → Met} : ∀ (l : List α) (m : Met), (∀ m a, a ∈ l → P m → P (f m a)) → P m → P (l.foldl f m)
  | [], _, _, h => h
  | a :: l, m, hf, h => fold_inv l (f m a) (fun m b hb => hf m b (List.mem_cons_of_mem _ hb)) (hf m a List.mem_cons_self h)
theorem runM_inv {R : Rule} {P : Met → Prop} (h0 : P [(List.range (manyE R), [])]) (hs : ∀ m es u sg, (es, u) ∈ m → sg < R.s → P m → P (growM R es u m sg)) : ∀ i, P (runM R i)
  | 0 => h0
  | i + 1 => by
    have ih := runM_inv h0 hs i
    show P (stepM R (runM R i) i)
    unfold stepM
    cases q : (runM R i)[i]? with
    | none => exact ih
    | some p =>
      obtain ⟨es, u⟩ := p
      have hm : (es, u) ∈ runM R i := List.mem_of_getElem? q
      have key : ∀ (l : List Nat) (m : Met), (∀ x ∈ l, x < R.s) → (es, u) ∈ m → P m → P (l.foldl (growM R es u) m) := by
        intro l
        induction l with
        | nil => intro m _ _ h; exact h
        | cons a l ih2 =>
          intro m hl hm h
          exact ih2 _ (fun x hx => hl x (List.mem_cons_of_mem _ hx)) ((putM_pre m _ _).subset hm) (hs m es u a hm (hl a List.mem_cons_self) h)
      exact key _ _ (fun x hx => List.mem_range.mp hx) hm ih
theorem runM_nodup (R : Rule) (i : Nat) : (keysM (runM R i)).Nodup :=
  runM_inv (P := fun m => (keysM m).Nodup) (by simp [keysM]) (fun m es u sg _ _ h => putM_nodup h) i
/-- what an entry tells -/
theorem runM_ends (R : Rule) (i : Nat) : ∀ p ∈ runM R i, endsN R p.2 = p.1 ∧ ∀ x ∈ p.2, x < R.s :=
  runM_inv (P := fun m => ∀ p ∈ m, endsN R p.2 = p.1 ∧ ∀ x ∈ p.2, x < R.s) (by simp [endsN]) (fun m es u sg hm hsg h p hp => by
    unfold growM putM at hp
    split at hp
    · exact h p hp
    · rcases List.mem_append.mp hp with hp | hp
      · exact h p hp
      · rw [List.mem_singleton] at hp
        subst hp
        obtain ⟨h1, h2⟩ := h _ hm
        refine ⟨by rw [endsN_snoc, h1], fun x hx => ?_⟩
        rcases List.mem_append.mp hx with hx | hx
        · exact h2 x hx
        · rw [List.mem_singleton] at hx; rw [hx]; exact hsg) i
/-- few tuples of ends -/
def codeE (M : Nat) (es : List Nat) : Nat := num 2 ((List.range M).map fun o => if o ∈ es then 1 else 0)
theorem codeE_lt (M : Nat) (es : List Nat) : codeE M es < 2 ^ M := by
  have := num_lt (s := 2) ((List.range M).map fun o => if o ∈ es then 1 else 0) (fun x hx => by
    obtain ⟨o, _, rfl⟩ := List.mem_map.mp hx
    split <;> decide)
  rwa [List.length_map, List.length_range] at this
theorem codeE_inj {M : Nat} {es fs : List Nat} (h1 : es.Pairwise (· < ·)) (h2 : fs.Pairwise (· < ·)) (b1 : ∀ x ∈ es, x < M) (b2 : ∀ x ∈ fs, x < M) (h : codeE M es = codeE M fs) : es = fs := by
  have c1 := cells_num (s := 2) ((List.range M).map fun o => if o ∈ es then 1 else 0) (fun x hx => by
    obtain ⟨o, _, rfl⟩ := List.mem_map.mp hx
    split <;> decide)
  have c2 := cells_num (s := 2) ((List.range M).map fun o => if o ∈ fs then 1 else 0) (fun x hx => by
    obtain ⟨o, _, rfl⟩ := List.mem_map.mp hx
    split <;> decide)
  rw [List.length_map, List.length_range] at c1 c2
  unfold codeE at h
  rw [h, c2] at c1
  refine sorted_eq h1 h2 fun x => ?_
  by_cases hx : x < M
  · have := congrArg (·[x]?) c1
    simp only [List.getElem?_map, List.getElem?_range hx, Option.map_some, Option.some.injEq] at this
    by_cases m1 : x ∈ es <;> by_cases m2 : x ∈ fs <;> simp [m1, m2] at this ⊢
  · exact ⟨fun z => absurd (b1 x z) hx, fun z => absurd (b2 x z) hx⟩
theorem runM_sorted (R : Rule) (i : Nat) : ∀ es ∈ keysM (runM R i), es.Pairwise (· < ·) ∧ ∀ x ∈ es, x < manyE R := fun es hes => by
  obtain ⟨p, hp, rfl⟩ := List.mem_map.mp hes
  rw [← (runM_ends R i p hp).1]
  exact ⟨endsN_sorted R p.2, endsN_lt R p.2⟩
theorem runM_len {R : Rule} (h : R.ok) (i : Nat) : (runM R i).length ≤ 256 := by
  have hn := runM_nodup R i
  have hs := runM_sorted R i
  have h2 : ((keysM (runM R i)).map (codeE (manyE R))).Nodup := by
    rw [List.nodup_iff_pairwise_ne, List.pairwise_map]
    exact (List.nodup_iff_pairwise_ne.mp hn).imp_of_mem fun {a b} ha hb hne z => hne (codeE_inj (hs a ha).1 (hs b hb).1 (hs a ha).2 (hs b hb).2 z)
  have h3 := nodup_len (M := 2 ^ manyE R) h2 fun o ho => by
    obtain ⟨es, _, rfl⟩ := List.mem_map.mp ho
    exact codeE_lt _ _
  unfold keysM at h3
  rw [List.length_map, List.length_map] at h3
  have h4 : 2 ^ manyE R ≤ 2 ^ 8 := Nat.pow_le_pow_right (by decide) (manyE_le h)
  omega
theorem runM_fin {R : Rule} (h : R.ok) {i : Nat} (hl : (runM R i).length ≤ i) (hi : i ≤ 300) : finM R = runM R i := by
  have := runM_stop R hl (300 - i)
  rw [Nat.add_sub_cancel' hi] at this
  rw [finM_eq, this]
theorem finM_len {R : Rule} (h : R.ok) : (finM R).length ≤ 256 := by rw [finM_eq]; exact runM_len h 300
theorem finM_stop {R : Rule} (h : R.ok) : finM R = runM R (finM R).length := by
  have l1 := finM_len h
  have l2 := runM_len h 256
  have e1 : finM R = runM R 256 := runM_fin h (by omega) (by omega)
  have pre := runM_pre' R (show (finM R).length ≤ 256 by omega)
  by_cases hq : (runM R (finM R).length).length ≤ (finM R).length
  · exact runM_fin h hq (by omega)
  · have := pre.length_le
    rw [← e1] at this
    omega
theorem grow_has (R : Rule) (es u : List Nat) : ∀ (l : List Nat) (m : Met) (a : Nat), a ∈ l → furtherN R es a ∈ keysM (l.foldl (growM R es u) m)
  | b :: l, m, a, h => by
    rcases List.mem_cons.mp h with rfl | h
    · have h1 : furtherN R es a ∈ keysM (growM R es u m a) := by
        unfold growM putM
        split
        · assumption
        · unfold keysM; simp
      exact ((grow_pre R es u l (growM R es u m a)).map (·.1)).subset h1
    · exact grow_has R es u l _ a h
/-- no way leads out -/
theorem finM_closed {R : Rule} (h : R.ok) {es : List Nat} {sg : Nat} (he : es ∈ keysM (finM R)) (hs : sg < R.s) : furtherN R es sg ∈ keysM (finM R) := by
  obtain ⟨p, hp, rfl⟩ := List.mem_map.mp he
  obtain ⟨i, hi, e⟩ := List.getElem_of_mem hp
  have l1 := finM_len h
  have pre := finM_pre R (show i + 1 ≤ 300 by omega)
  have pre0 := finM_pre R (show i ≤ 300 by omega)
  have hil : i < (runM R i).length := by
    rcases Nat.lt_or_ge i (runM R i).length with z | z
    · exact z
    · have := runM_fin h z (by omega)
      rw [this] at hi
      omega
  have ei : (runM R i)[i]? = some p := by
    have h1 : (finM R)[i]? = some p := by rw [List.getElem?_eq_getElem hi, e]
    rw [← h1]
    exact pre_get pre0 hil
  have h2 : furtherN R p.1 sg ∈ keysM (runM R (i + 1)) := by
    show _ ∈ keysM (stepM R (runM R i) i)
    unfold stepM
    rw [ei]
    exact grow_has R p.1 p.2 _ _ sg (List.mem_range.mpr hs)
  exact (pre.map (·.1)).subset h2
theorem finM_first (R : Rule) : List.range (manyE R) ∈ keysM (finM R) := ((finM_pre R (show 0 ≤ 300 by omega)).map (·.1)).subset (by show _ ∈ [List.range (manyE R)]; simp)
/-- every piece's ends are met -/
theorem finM_all {R : Rule} (h : R.ok) (u : List Nat) (hu : ∀ x ∈ u, x < R.s) : endsN R u ∈ keysM (finM R) := by
  induction u using snocInd with
  | h0 => exact finM_first R
  | h1 u a ih =>
    rw [endsN_snoc]
    exact finM_closed h (ih fun x hx => hu x (List.mem_append_left _ hx)) (hu a (by simp))
theorem look_pre {m m' : Met} (hp : m <+: m') {es u : List Nat} (h : lookM m es = some u) : lookM m' es = some u := by
  obtain ⟨t, rfl⟩ := hp
  unfold lookM at h ⊢
  rw [List.find?_append]
  cases q : m.find? fun p => decide (p.1 = es) with
  | none => rw [q] at h; cases h
  | some p => rw [q] at h; rw [Option.some_or]; exact h
theorem look_mem {m : Met} {es u : List Nat} (h : lookM m es = some u) : (es, u) ∈ m := by
  unfold lookM at h
  cases q : m.find? fun p => decide (p.1 = es) with
  | none => rw [q] at h; cases h
  | some p =>
    rw [q] at h
    have h1 := List.find?_some q
    have h2 := List.mem_of_find?_eq_some q
    have h1 := of_decide_eq_true h1
    cases h
    obtain ⟨x, y⟩ := p
    simp only at h1
    rw [← h1]
    exact h2
theorem look_none {m : Met} {es : List Nat} : lookM m es = none ↔ es ∉ keysM m := by
  unfold lookM keysM
  rw [Option.map_eq_none_iff, List.find?_eq_none, List.mem_map]
  constructor
  · rintro h ⟨p, hp, e⟩
    exact h p hp (decide_eq_true e)
  · intro h p hp e
    exact h ⟨p, hp, of_decide_eq_true e⟩
theorem look_nodup {m : Met} (hn : (keysM m).Nodup) {es u : List Nat} (h : (es, u) ∈ m) : lookM m es = some u := by
  induction m with
  | nil => cases h
  | cons p m ih =>
    unfold keysM at hn
    rw [List.map_cons, List.nodup_cons] at hn
    unfold lookM
    rcases List.mem_cons.mp h with e | h
    · subst e
      rw [List.find?_cons_of_pos (by simp)]
      rfl
    · have hne : p.1 ≠ es := fun z => hn.1 (List.mem_map.mpr ⟨(es, u), h, z.symm⟩)
      rw [List.find?_cons_of_neg (by simp [hne])]
      exact ih hn.2 h
/-- the piece that is told as missing -/
theorem missing_some {R : Rule} {u : List Nat} (h : lookM (finM R) [] = some u) : endsN R u = [] ∧ ∀ x ∈ u, x < R.s := by
  rw [finM_eq] at h
  exact runM_ends R 300 _ (look_mem h)
theorem missing_none {R : Rule} (h : R.ok) : lookM (finM R) [] = none ↔ ∀ u, (∀ x ∈ u, x < R.s) → endsN R u ≠ [] := by
  rw [look_none]
  constructor
  · intro hn u hu e
    have := finM_all h u hu
    rw [e] at this
    exact hn this
  · intro hu hm
    obtain ⟨p, hp, e⟩ := List.mem_map.mp hm
    rw [finM_eq] at hp
    obtain ⟨h1, h2⟩ := runM_ends R 300 p hp
    exact hu p.2 h2 (by rw [h1, e])
theorem runM_plen (R : Rule) : ∀ i, ∀ p ∈ runM R i, p.2.length ≤ i
  | 0, p, hp => by
    have : p ∈ [(List.range (manyE R), ([] : List Nat))] := hp
    rw [List.mem_singleton] at this
    subst this
    exact Nat.le_refl _
  | i + 1, p, hp => by
    have ih := runM_plen R i
    have hp : p ∈ stepM R (runM R i) i := hp
    unfold stepM at hp
    cases q : (runM R i)[i]? with
    | none => rw [q] at hp; exact Nat.le_succ_of_le (ih p hp)
    | some e =>
      rw [q] at hp
      have he := ih e (List.mem_of_getElem? q)
      refine fold_inv (P := fun m => ∀ p ∈ m, p.2.length ≤ i + 1) _ _ (fun m a _ hm p hp => ?_) (fun p hp => Nat.le_succ_of_le (ih p hp)) p hp
      unfold growM putM at hp
      split at hp
      · exact hm p hp
      · rcases List.mem_append.mp hp with hp | hp
        · exact hm p hp
        · rw [List.mem_singleton] at hp
          subst hp
          simp only [List.length_append, List.length_singleton]
          omega
theorem finM_plen {R : Rule} (h : R.ok) : ∀ p ∈ finM R, p.2.length ≤ 256 := fun p hp => by
  rw [finM_stop h] at hp
  exact Nat.le_trans (runM_plen R _ p hp) (finM_len h)
/-- the step at i, sign by sign -/
theorem run_step {R : Rule} {i : Nat} {p : List Nat × List Nat} (e : (runM R i)[i]? = some p) : runM R (i + 1) = (List.range R.s).foldl (growM R p.1 p.2) (runM R i) := by
  show stepM R (runM R i) i = _
  unfold stepM
  rw [e]
theorem part_pre {R : Rule} {i : Nat} {p : List Nat × List Nat} (e : (runM R i)[i]? = some p) {pre post : List Nat} (hL : List.range R.s = pre ++ post) : pre.foldl (growM R p.1 p.2) (runM R i) <+: runM R (i + 1) := by
  rw [run_step e, hL, List.foldl_append]
  exact grow_pre R p.1 p.2 post _
theorem part_look {R : Rule} {i : Nat} {p : List Nat × List Nat} (e : (runM R i)[i]? = some p) (pre : List Nat) : lookM (pre.foldl (growM R p.1 p.2) (runM R i)) p.1 = some p.2 :=
  look_pre (grow_pre R p.1 p.2 pre _) (look_nodup (runM_nodup R i) (List.mem_of_getElem? e))

/-! ### .. as a dict -/
def encM (m : Met) : List (List Key × PyData) := m.map fun p => (keyN p.1, nL p.2)
theorem look_enc (m : Met) (es : List Nat) : lookT (encM m) (keyN es) = (lookM m es).map nL := by
  unfold lookT lookM encM
  rw [List.find?_map, Option.map_map, Option.map_map]
  have : ((fun q : List Key × PyData => decide (q.1 = keyN es)) ∘ fun p : List Nat × List Nat => (keyN p.1, nL p.2)) = fun p => decide (p.1 = es) := by
    funext p
    show decide (keyN p.1 = keyN es) = decide (p.1 = es)
    by_cases h : p.1 = es
    · rw [h]; simp
    · rw [decide_eq_false h, decide_eq_false fun z => h (keyN_inj z)]
  rw [this]
  rfl
theorem look_enc_some (m : Met) (es : List Nat) : (lookT (encM m) (keyN es)).isSome = decide (es ∈ keysM m) := by
  rw [look_enc, Option.isSome_map]
  cases q : lookM m es with
  | none => rw [decide_eq_false (look_none.mp q)]; rfl
  | some u =>
    have : es ∈ keysM m := by
      by_cases h : es ∈ keysM m
      · exact h
      · rw [look_none.mpr h] at q; cases q
    rw [decide_eq_true this]; rfl
theorem put_enc {m : Met} {es u : List Nat} (h : es ∉ keysM m) : putD (encM m) (keyN es) (nL u) = encM (m ++ [(es, u)]) := by
  have hn : ((encM m).any fun q => decide (q.1 = keyN es)) = false := by
    rw [List.any_eq_false]
    intro q hq z
    obtain ⟨p, hp, rfl⟩ := List.mem_map.mp hq
    exact h (List.mem_map.mpr ⟨p, hp, keyN_inj (of_decide_eq_true z)⟩)
  unfold putD
  rw [hn, if_neg Bool.false_ne_true]
  unfold encM
  rw [List.map_append]
  rfl
theorem encM_len (m : Met) : (encM m).length = m.length := by unfold encM; rw [List.length_map]
theorem encM_keys (m : Met) : (encM m).map (fun q => PyData.tuple (q.1.map keyD)) = (keysM m).map nT := by
  unfold encM keysM
  rw [List.map_map, List.map_map]
  exact List.map_congr_left fun p _ => keyN_D p.1
def waitD (m : Met) (i : Nat) : List PyData := (m.drop i).map fun p => nT p.1
theorem waitD_cons {m : Met} {i : Nat} {p : List Nat × List Nat} (e : m[i]? = some p) : waitD m i = nT p.1 :: waitD m (i + 1) := by
  unfold waitD
  have hi := (List.getElem?_eq_some_iff.mp e).1
  have he := (List.getElem?_eq_some_iff.mp e).2
  rw [← List.getElem_cons_drop hi, he, List.map_cons]
theorem waitD_snoc {m : Met} {i : Nat} {q : List Nat × List Nat} (h : i ≤ m.length) : waitD (m ++ [q]) i = waitD m i ++ [nT q.1] := by
  unfold waitD
  rw [List.drop_append_of_le_length h, List.map_append]
  rfl
theorem shp_tups {α : Type} (L : List α) (f : α → List Nat) : ∀ x ∈ L.map (fun a => nT (f a)), shp 1 x := fun x hx => by
  obtain ⟨a, _, rfl⟩ := List.mem_map.mp hx
  exact shp_nT
theorem nmap_scal' {l : List Nat} : ∀ y ∈ l.map nI, scalD y = true := nmap_scal
/-! ### the law's own going -/
def cutK (R : Rule) : List (List Nat) := (keysM (finM R)).takeWhile fun es => !es.isEmpty
def lackD (R : Rule) : PyData := match lookM (finM R) [] with
  | some u => nL u
  | none => .none
theorem cut_all {R : Rule} (h : [] ∉ keysM (finM R)) : cutK R = keysM (finM R) ∧ lackD R = .none := by
  refine ⟨?_, ?_⟩
  · unfold cutK
    have key : ∀ l : List (List Nat), [] ∉ l → l.takeWhile (fun es => !es.isEmpty) = l := by
      intro l
      induction l with
      | nil => intro _; rfl
      | cons a l ih =>
        intro hn
        cases a with
        | nil => exact absurd List.mem_cons_self hn
        | cons x y => rw [List.takeWhile_cons, if_pos (show (!(x :: y).isEmpty) = true from rfl), ih fun z => hn (List.mem_cons_of_mem _ z)]
    exact key _ h
  · unfold lackD
    rw [look_none.mpr h]
theorem cut_early {R : Rule} {m : Met} {u : List Nat} (h : [] ∉ keysM m) (hp : m ++ [([], u)] <+: finM R) : cutK R = keysM m ∧ lackD R = nL u := by
  refine ⟨?_, ?_⟩
  · obtain ⟨t, ht⟩ := hp
    unfold cutK
    have e : keysM (finM R) = keysM m ++ ([] :: keysM t) := by
      rw [← ht]
      unfold keysM
      simp
    rw [e]
    have key : ∀ l : List (List Nat), [] ∉ l → (l ++ [] :: keysM t).takeWhile (fun es => !es.isEmpty) = l := by
      intro l
      induction l with
      | nil => intro _; rfl
      | cons a l ih =>
        intro hn
        cases a with
        | nil => exact absurd List.mem_cons_self hn
        | cons x y => rw [List.cons_append, List.takeWhile_cons, if_pos (show (!(x :: y).isEmpty) = true from rfl), ih fun z => hn (List.mem_cons_of_mem _ z)]
    exact key _ h
  · have h1 : lookM (m ++ [([], u)]) [] = some u := by
      unfold lookM
      rw [List.find?_append, show m.find? (fun p => decide (p.1 = [])) = none from by
        have := look_none.mpr h
        unfold lookM at this
        exact Option.map_eq_none_iff.mp this, Option.none_or]
      rfl
    unfold lackD
    rw [look_pre hp h1]
theorem shp_nTs (m : List (List Nat)) : ∀ x ∈ m.map nT, shp 1 x := fun x hx => by
  obtain ⟨a, _, rfl⟩ := List.mem_map.mp hx
  exact shp_nT
theorem in_nTs (m : List (List Nat)) (q : List Nat) : ((m.map nT).any fun z => PyData.eqv z (nT q)) = decide (q ∈ m) := by
  induction m with
  | nil => rfl
  | cons a r ih =>
    rw [List.map_cons, List.any_cons, ih, eqv_nT]
    by_cases h1 : a = q <;> by_cases h2 : q ∈ r <;> simp [h1, h2, eq_comm]
    exact fun z => h1 z.symm
theorem eqv_nTs (m m' : List (List Nat)) : PyData.eqv (.list (m.map nT)) (.list (m'.map nT)) = decide (m = m') := by
  rw [eqv_list]
  exact eqvAll_map (fun _ _ => eqv_nT) m m'

/-! ### how many origins there are -/
def Wd (R : Rule) (u : List Nat) : Prop := ∀ x ∈ u, x < R.s
theorem Wd.app {R : Rule} {u v : List Nat} (h : Wd R u) (g : Wd R v) : Wd R (u ++ v) := fun x hx => by
  rcases List.mem_append.mp hx with hx | hx
  · exact h x hx
  · exact g x hx
theorem Wd.left {R : Rule} {u v : List Nat} (h : Wd R (u ++ v)) : Wd R u := fun x hx => h x (List.mem_append_left _ hx)
theorem Wd.right {R : Rule} {u v : List Nat} (h : Wd R (u ++ v)) : Wd R v := fun x hx => h x (List.mem_append_right _ hx)
theorem Wd.nil {R : Rule} : Wd R [] := fun x hx => by cases hx
theorem Wd.one {R : Rule} {a : Nat} (h : a < R.s) : Wd R [a] := fun x hx => by rw [List.mem_singleton] at hx; rw [hx]; exact h
def kN (R : Rule) (e : Nat) (u : List Nat) : Nat := (extN R e u).length
def cN (R : Rule) (u : List Nat) : Nat := (origN R u).length
theorem sum_append_map {α : Type} (f : α → Nat) (l m : List α) : ((l ++ m).map f).sum = (l.map f).sum + (m.map f).sum := by
  rw [List.map_append, List.sum_append]
theorem sum_swap {α β : Type} (f : α → β → Nat) (B : List β) : ∀ A : List α, (A.map fun a => (B.map fun b => f a b).sum).sum = (B.map fun b => (A.map fun a => f a b).sum).sum
  | [] => by
    rw [List.map_nil, List.sum_nil]
    induction B with
    | nil => rfl
    | cons b B ih => rw [List.map_cons, List.sum_cons, ← ih]; rfl
  | a :: A => by
    rw [List.map_cons, List.sum_cons, sum_swap f B A]
    clear sum_swap
    induction B with
    | nil => rfl
    | cons b B ih =>
      simp only [List.map_cons, List.sum_cons] at ih ⊢
      omega
theorem sum_mul {α : Type} (m : Nat) (f : α → Nat) : ∀ l : List α, (l.map fun a => m * f a).sum = m * (l.map f).sum
  | [] => rfl
  | a :: l => by rw [List.map_cons, List.sum_cons, sum_mul m f l, List.map_cons, List.sum_cons, Nat.mul_add]
theorem sum_filter {α : Type} (out : α → Nat) (g : α → Nat) (s : Nat) : ∀ cs : List α, (∀ c ∈ cs, out c < s) → ((List.range s).map fun a => ((cs.filter fun c => decide (out c = a)).map g).sum).sum = (cs.map g).sum
  | [], _ => by
    simp only [List.filter_nil, List.map_nil, List.sum_nil]
    induction List.range s with
    | nil => rfl
    | cons b B ih => rw [List.map_cons, List.sum_cons, ih]; rfl
  | c :: cs, h => by
    have hc := h c List.mem_cons_self
    have ih := sum_filter out g s cs fun x hx => h x (List.mem_cons_of_mem _ hx)
    rw [List.map_cons, List.sum_cons, ← ih]
    have key : ∀ L : List Nat, L.Nodup → (L.map fun a => (((c :: cs).filter fun c => decide (out c = a)).map g).sum).sum = (if out c ∈ L then g c else 0) + (L.map fun a => ((cs.filter fun c => decide (out c = a)).map g).sum).sum := by
      intro L
      induction L with
      | nil => intro _; rfl
      | cons b L ihL =>
        intro hn
        rw [List.nodup_cons] at hn
        rw [List.map_cons, List.sum_cons, ihL hn.2, List.map_cons, List.sum_cons, List.filter_cons]
        by_cases e : out c = b
        · have : b ∉ L := hn.1
          rw [if_pos (decide_eq_true e), List.map_cons, List.sum_cons, if_neg (by rw [e]; exact this), if_pos (by rw [e]; exact List.mem_cons_self)]
          omega
        · rw [if_neg (by rw [decide_eq_false e]; exact Bool.false_ne_true)]
          have e2 : (out c ∈ b :: L) ↔ out c ∈ L := by simp [e]
          by_cases hm : out c ∈ L
          · rw [if_pos hm, if_pos (e2.mpr hm)]; omega
          · rw [if_neg hm, if_neg fun z => hm (e2.mp z)]; omega
    rw [key _ List.nodup_range, if_pos (List.mem_range.mpr hc)]
theorem outE_lt {R : Rule} (h : R.ok) (e c : Nat) : outE R e c < R.s := by
  unfold outE
  rw [List.getD_eq_getElem?_getD]
  cases q : R.t[e * R.s + c]? with
  | none => have := h.s2; show 0 < _; omega
  | some x => exact h.sg x (List.mem_of_getElem? q)
theorem outsE_wd {R : Rule} (h : R.ok) (cs : List Nat) : ∀ e, Wd R (outsE R e cs) := by
  induction cs with
  | nil => intro e; exact Wd.nil
  | cons c cs ih =>
    intro e x hx
    rw [outsE] at hx
    rcases List.mem_cons.mp hx with rfl | hx
    · exact outE_lt h e c
    · exact ih _ x hx
theorem sum_steps {R : Rule} (h : R.ok) (e : Nat) (f : Nat → Nat) : ((List.range R.s).map fun a => ((stepsN R e a).map fun p => f p.2).sum).sum = ((List.range R.s).map fun c => f (nxE R e c)).sum := by
  have := sum_filter (outE R e) (fun c => f (nxE R e c)) R.s (List.range R.s) fun c _ => outE_lt h e c
  rw [← this]
  congr 1
  refine List.map_congr_left fun a _ => ?_
  unfold stepsN
  rw [List.map_map]
  rfl
theorem kN_cons (R : Rule) (e a : Nat) (u : List Nat) : kN R e (a :: u) = ((stepsN R e a).map fun p => kN R p.2 u).sum := by
  unfold kN
  rw [extN, List.length_flatMap]
  congr 1
  refine List.map_congr_left fun p _ => ?_
  rw [List.length_map]
theorem sum_const {α : Type} (l : List α) (m : Nat) : (l.map fun _ => m).sum = l.length * m := by
  induction l with
  | nil => simp
  | cons a l ih => rw [List.map_cons, List.sum_cons, ih, List.length_cons, Nat.succ_mul, Nat.add_comm]
theorem kN_right {R : Rule} (h : R.ok) : ∀ (u : List Nat) (e : Nat), ((List.range R.s).map fun a => kN R e (u ++ [a])).sum = R.s * kN R e u
  | [], e => by
    have e1 : ∀ a ∈ List.range R.s, kN R e ([] ++ [a]) = ((stepsN R e a).map fun p => (fun _ => 1) p.2).sum := fun a _ => by
      rw [List.nil_append, kN_cons]
      rfl
    rw [List.map_congr_left e1, sum_steps h e fun _ => 1, sum_const, List.length_range]
    rfl
  | b :: u, e => by
    have e1 : ∀ a ∈ List.range R.s, kN R e (b :: u ++ [a]) = ((stepsN R e b).map fun p => kN R p.2 (u ++ [a])).sum := fun a _ => by rw [List.cons_append, kN_cons]
    rw [List.map_congr_left e1, sum_swap, kN_cons, ← sum_mul]
    congr 1
    refine List.map_congr_left fun p _ => ?_
    exact kN_right h u p.2
theorem cN_eq {R : Rule} (h : R.ok) (u : List Nat) : cN R u = ((List.range (manyE R)).map fun e => kN R e u).sum := by
  unfold cN
  rw [origN_ext h, List.length_flatMap]
  congr 1
  refine List.map_congr_left fun e _ => ?_
  rw [List.length_map]
  rfl
theorem cN_right {R : Rule} (h : R.ok) (u : List Nat) : ((List.range R.s).map fun a => cN R (u ++ [a])).sum = R.s * cN R u := by
  have e1 : ∀ a ∈ List.range R.s, cN R (u ++ [a]) = ((List.range (manyE R)).map fun e => kN R e (u ++ [a])).sum := fun a _ => cN_eq h _
  rw [List.map_congr_left e1, sum_swap, cN_eq h, ← sum_mul]
  congr 1
  exact List.map_congr_left fun e _ => kN_right h u e
theorem sum_mod (N : Nat) (g : Nat → Nat) : ∀ m, ((List.range (m * N)).map fun i => g (i % N)).sum = m * ((List.range N).map g).sum := by
  intro m
  rw [range_mul, List.map_flatMap]
  have : ∀ L : List Nat, (L.flatMap fun q => ((List.range N).map fun o => q * N + o).map fun i => g (i % N)).sum = L.length * ((List.range N).map g).sum := by
    intro L
    induction L with
    | nil => simp
    | cons q L ih =>
      rw [List.flatMap_cons, List.sum_append, ih, List.length_cons, Nat.succ_mul, Nat.add_comm]
      congr 2
      rw [List.map_map]
      refine List.map_congr_left fun o ho => ?_
      have ho := List.mem_range.mp ho
      show g ((q * N + o) % N) = g o
      rw [Nat.mul_comm, Nat.mul_add_mod, Nat.mod_eq_of_lt ho]
  rw [this, List.length_range]
theorem cN_left {R : Rule} (h : R.ok) (u : List Nat) : ((List.range R.s).map fun a => cN R (a :: u)).sum = R.s * cN R u := by
  have e1 : ∀ a ∈ List.range R.s, cN R (a :: u) = ((List.range (manyE R)).map fun e => ((stepsN R e a).map fun p => kN R p.2 u).sum).sum := fun a _ => by
    rw [cN_eq h]
    congr 1
    exact List.map_congr_left fun e _ => kN_cons R e a u
  rw [List.map_congr_left e1, sum_swap]
  have e2 : ∀ e ∈ List.range (manyE R), ((List.range R.s).map fun a => ((stepsN R e a).map fun p => kN R p.2 u).sum).sum = ((List.range R.s).map fun c => kN R (nxE R e c) u).sum := fun e _ => sum_steps h e fun o => kN R o u
  rw [List.map_congr_left e2]
  have e3 : ((List.range (manyE R)).map fun e => ((List.range R.s).map fun c => kN R (nxE R e c) u).sum).sum = ((List.range (manyE R * R.s)).map fun i => kN R (i % manyE R) u).sum := by
    rw [range_mul, List.map_flatMap]
    induction List.range (manyE R) with
    | nil => rfl
    | cons e L ih =>
      rw [List.map_cons, List.sum_cons, ih, List.flatMap_cons, List.sum_append, List.map_map]
      rfl
  rw [e3, Nat.mul_comm, sum_mod (manyE R) (fun o => kN R o u), cN_eq h]
theorem cN_nil {R : Rule} (h : R.ok) : cN R [] = manyE R := by
  unfold cN
  show (rowsL R.s (R.w - 1)).length = _
  rw [rowsL_cells (by have := h.s2; omega), List.length_map, List.length_range]
  rfl
/-! ### two rows of cells between the same ends that tell the same -/
def NoTw (R : Rule) : Prop := ∀ e cs cs', e < manyE R → Wd R cs → Wd R cs' → outsE R e cs = outsE R e cs' → runE R e cs = runE R e cs' → cs = cs'
theorem stepsN_ne (R : Rule) (e a : Nat) : (stepsN R e a).Pairwise fun p q => p.1 ≠ q.1 := by
  unfold stepsN
  rw [List.pairwise_map]
  exact (List.pairwise_lt_range.filter _).imp fun h => Nat.ne_of_lt h
theorem extN_nodup (R : Rule) : ∀ (u : List Nat) (e : Nat), (extN R e u).Nodup
  | [], e => by rw [extN]; simp
  | a :: u, e => by
    rw [extN, List.nodup_iff_pairwise_ne, List.pairwise_flatMap]
    refine ⟨fun p _ => ?_, (stepsN_ne R e a).imp fun {p q} hpq x hx y hy => ?_⟩
    · rw [List.pairwise_map]
      exact (List.nodup_iff_pairwise_ne.mp (extN_nodup R u p.2)).imp fun h z => h (List.cons.inj z).2
    · obtain ⟨x', _, rfl⟩ := List.mem_map.mp hx
      obtain ⟨y', _, rfl⟩ := List.mem_map.mp hy
      intro z
      exact hpq (List.cons.inj z).1
theorem kN_le {R : Rule} (h : R.ok) (ht : NoTw R) (u : List Nat) {e : Nat} (he : e < manyE R) : kN R e u ≤ manyE R := by
  have hn : ((extN R e u).map (runE R e)).Nodup := by
    rw [List.nodup_iff_pairwise_ne, List.pairwise_map]
    refine (List.nodup_iff_pairwise_ne.mp (extN_nodup R u e)).imp_of_mem fun {a b} ha hb hne z => hne ?_
    obtain ⟨a1, a2⟩ := (mem_extN u e a).mp ha
    obtain ⟨b1, b2⟩ := (mem_extN u e b).mp hb
    exact ht e a b he a1 b1 (by rw [a2, b2]) z
  have := nodup_len (M := manyE R) hn fun o ho => by
    obtain ⟨cs, _, rfl⟩ := List.mem_map.mp ho
    exact runE_lt h he cs
  rwa [List.length_map] at this
theorem sum_le {α : Type} (f : α → Nat) (M : Nat) : ∀ l : List α, (∀ a ∈ l, f a ≤ M) → (l.map f).sum ≤ l.length * M
  | [], _ => by simp
  | a :: l, h => by
    have h1 := h a List.mem_cons_self
    have h2 := sum_le f M l fun x hx => h x (List.mem_cons_of_mem _ hx)
    rw [List.map_cons, List.sum_cons, List.length_cons, Nat.succ_mul]
    omega
theorem sum_ge {α : Type} (f : α → Nat) (M : Nat) : ∀ l : List α, (∀ a ∈ l, M ≤ f a) → l.length * M ≤ (l.map f).sum
  | [], _ => by simp
  | a :: l, h => by
    have h1 := h a List.mem_cons_self
    have h2 := sum_ge f M l fun x hx => h x (List.mem_cons_of_mem _ hx)
    rw [List.map_cons, List.sum_cons, List.length_cons, Nat.succ_mul]
    omega
theorem sum_le_eq {α : Type} (f : α → Nat) (M : Nat) : ∀ l : List α, (∀ a ∈ l, f a ≤ M) → (l.map f).sum = l.length * M → ∀ a ∈ l, f a = M
  | [], _, _, a, ha => by cases ha
  | b :: l, h, e, a, ha => by
    have h1 := h b List.mem_cons_self
    have h2 := sum_le f M l fun x hx => h x (List.mem_cons_of_mem _ hx)
    rw [List.map_cons, List.sum_cons, List.length_cons, Nat.succ_mul] at e
    rcases List.mem_cons.mp ha with rfl | ha
    · omega
    · exact sum_le_eq f M l (fun x hx => h x (List.mem_cons_of_mem _ hx)) (by omega) a ha
theorem sum_ge_eq {α : Type} (f : α → Nat) (M : Nat) : ∀ l : List α, (∀ a ∈ l, M ≤ f a) → (l.map f).sum = l.length * M → ∀ a ∈ l, f a = M
  | [], _, _, a, ha => by cases ha
  | b :: l, h, e, a, ha => by
    have h1 := h b List.mem_cons_self
    have h2 := sum_ge f M l fun x hx => h x (List.mem_cons_of_mem _ hx)
    rw [List.map_cons, List.sum_cons, List.length_cons, Nat.succ_mul] at e
    rcases List.mem_cons.mp ha with rfl | ha
    · omega
    · exact sum_ge_eq f M l (fun x hx => h x (List.mem_cons_of_mem _ hx)) (by omega) a ha
theorem exMax (R : Rule) (f : List Nat → Nat) (B : Nat) (hB : ∀ u, Wd R u → f u ≤ B) : ∃ u, Wd R u ∧ ∀ v, Wd R v → f v ≤ f u := by
  have key : ∀ n u, Wd R u → B ≤ f u + n → ∃ u, Wd R u ∧ ∀ v, Wd R v → f v ≤ f u := by
    intro n
    induction n with
    | zero => intro u hu hb; exact ⟨u, hu, fun v hv => by have := hB v hv; omega⟩
    | succ n ih =>
      intro u hu hb
      by_cases hm : ∀ v, Wd R v → f v ≤ f u
      · exact ⟨u, hu, hm⟩
      · obtain ⟨v, hv⟩ := Classical.not_forall.mp hm
        obtain ⟨hv, h2⟩ := Classical.not_imp.mp hv
        exact ih v hv (by omega)
  exact key B [] Wd.nil (by omega)
theorem exMin (R : Rule) (f : List Nat → Nat) : ∃ u, Wd R u ∧ ∀ v, Wd R v → f u ≤ f v := by
  have key : ∀ n u, Wd R u → f u ≤ n → ∃ u, Wd R u ∧ ∀ v, Wd R v → f u ≤ f v := by
    intro n
    induction n with
    | zero => intro u hu hb; exact ⟨u, hu, fun v hv => by omega⟩
    | succ n ih =>
      intro u hu hb
      by_cases hm : ∀ v, Wd R v → f u ≤ f v
      · exact ⟨u, hu, hm⟩
      · obtain ⟨v, hv⟩ := Classical.not_forall.mp hm
        obtain ⟨hv, h2⟩ := Classical.not_imp.mp hv
        exact ih v hv (by omega)
  exact key _ [] Wd.nil (Nat.le_refl _)
theorem min_right {R : Rule} (h : R.ok) {v : List Nat} (hv : Wd R v) (hm : ∀ x, Wd R x → cN R v ≤ cN R x) (x : List Nat) (hx : Wd R x) : cN R (v ++ x) = cN R v := by
  induction x using snocInd with
  | h0 => rw [List.append_nil]
  | h1 x a ih =>
    have ih := ih hx.left
    have hs := cN_right h (v ++ x)
    rw [ih] at hs
    have := sum_ge_eq (fun a => cN R (v ++ x ++ [a])) (cN R v) (List.range R.s) (fun b hb => hm _ ((hv.app hx.left).app (Wd.one (List.mem_range.mp hb)))) (by rw [hs, List.length_range]) a (List.mem_range.mpr (hx a (by simp)))
    rw [← List.append_assoc]
    exact this
theorem min_left {R : Rule} (h : R.ok) {v : List Nat} (hv : Wd R v) (hm : ∀ x, Wd R x → cN R v ≤ cN R x) : ∀ (x : List Nat), Wd R x → cN R (x ++ v) = cN R v
  | [], _ => rfl
  | a :: x, hx => by
    have hx2 : Wd R x := fun y hy => hx y (List.mem_cons_of_mem _ hy)
    have ih := min_left h hv hm x hx2
    have hs := cN_left h (x ++ v)
    rw [ih] at hs
    exact sum_ge_eq (fun a => cN R (a :: (x ++ v))) (cN R v) (List.range R.s) (fun b hb => hm _ (by
      intro y hy
      rcases List.mem_cons.mp hy with rfl | hy
      · exact List.mem_range.mp hb
      · exact (hx2.app hv) y hy)) (by rw [hs, List.length_range]) a (List.mem_range.mpr (hx a List.mem_cons_self))
theorem max_right {R : Rule} (h : R.ok) {v : List Nat} (hv : Wd R v) (hm : ∀ x, Wd R x → cN R x ≤ cN R v) (x : List Nat) (hx : Wd R x) : cN R (v ++ x) = cN R v := by
  induction x using snocInd with
  | h0 => rw [List.append_nil]
  | h1 x a ih =>
    have ih := ih hx.left
    have hs := cN_right h (v ++ x)
    rw [ih] at hs
    have := sum_le_eq (fun a => cN R (v ++ x ++ [a])) (cN R v) (List.range R.s) (fun b hb => hm _ ((hv.app hx.left).app (Wd.one (List.mem_range.mp hb)))) (by rw [hs, List.length_range]) a (List.mem_range.mpr (hx a (by simp)))
    rw [← List.append_assoc]
    exact this
/-- no twins: each piece has as many origins as there are ends -/
theorem notw_const {R : Rule} (h : R.ok) (ht : NoTw R) (u : List Nat) (hu : Wd R u) : cN R u = manyE R := by
  have hB : ∀ u, Wd R u → cN R u ≤ manyE R * manyE R := fun u _ => by
    rw [cN_eq h]
    have := sum_le (fun e => kN R e u) (manyE R) (List.range (manyE R)) fun e he => kN_le h ht u (List.mem_range.mp he)
    rwa [List.length_range] at this
  obtain ⟨a, ha, hmax⟩ := exMax R (cN R) _ hB
  obtain ⟨b, hb, hmin⟩ := exMin R (cN R)
  have e1 := max_right h ha hmax b hb
  have e2 := min_left h hb hmin a ha
  have e3 : cN R a = cN R b := by rw [← e1, e2]
  have f1 := hmax u hu
  have f2 := hmin u hu
  have f3 := hmax [] Wd.nil
  have f4 := hmin [] Wd.nil
  rw [cN_nil h] at f3 f4
  omega
theorem extN_append (R : Rule) (z : List Nat) : ∀ (u : List Nat) (e : Nat), extN R e (u ++ z) = (extN R e u).flatMap fun cs => (extN R (runE R e cs) z).map (cs ++ ·)
  | [], e => by simp [extN, runE]
  | a :: u, e => by
    rw [List.cons_append, extN, extN, List.flatMap_assoc]
    refine flatMap_eq fun p hp => ?_
    rw [extN_append R z u p.2, List.map_flatMap, List.flatMap_map]
    refine flatMap_eq fun cs _ => ?_
    rw [List.map_map]
    have : runE R e (p.1 :: cs) = runE R p.2 cs := by
      rw [(mem_stepsN.mp hp).2.2]
      rfl
    rw [this]
    rfl
theorem kN_append (R : Rule) (u z : List Nat) (e : Nat) : kN R e (u ++ z) = ((extN R e u).map fun cs => kN R (runE R e cs) z).sum := by
  unfold kN
  rw [extN_append, List.length_flatMap]
  congr 1
  refine List.map_congr_left fun cs _ => ?_
  rw [List.length_map]
theorem sum_one {α : Type} (f : α → Nat) : ∀ (l : List α) (a : α), a ∈ l → f a ≤ (l.map f).sum
  | b :: l, a, h => by
    rw [List.map_cons, List.sum_cons]
    rcases List.mem_cons.mp h with rfl | h
    · omega
    · have := sum_one f l a h
      omega
theorem sum_two {α : Type} (f : α → Nat) : ∀ (l : List α) (a b : α), a ∈ l → b ∈ l → a ≠ b → f a + f b ≤ (l.map f).sum
  | c :: l, a, b, ha, hb, hne => by
    rw [List.map_cons, List.sum_cons]
    rcases List.mem_cons.mp ha with e | ha2 <;> rcases List.mem_cons.mp hb with e2 | hb2
    · exact absurd (e.trans e2.symm) hne
    · subst e
      have := sum_one f l b hb2
      omega
    · subst e2
      have := sum_one f l a ha2
      omega
    · have := sum_two f l a b ha2 hb2 hne
      omega
theorem cells_num' {R : Rule} (h : R.ok) {e : Nat} (he : e < manyE R) : num R.s (cells R.s (R.w - 1) e) = e := num_cells (by have := h.s2; omega) _ _ he
theorem run_cells {R : Rule} (h : R.ok) {e o : Nat} (he : e < manyE R) (ho : o < manyE R) : runE R e (cells R.s (R.w - 1) o) = o := by
  have hs : 0 < R.s := by have := h.s2; omega
  have := run_num h (cells R.s (R.w - 1) o) (cells R.s (R.w - 1) e) (cells_len _ _ _) (cells_lt hs _ _) (cells_lt hs _ _)
  rw [cells_num' h he] at this
  rw [this, cells_len, List.drop_append, cells_len, Nat.sub_self, List.drop_zero, List.drop_of_length_le (by rw [cells_len]; exact Nat.le_refl _), List.nil_append, cells_num' h ho]
theorem cells_wd {R : Rule} (h : R.ok) (e : Nat) : Wd R (cells R.s (R.w - 1) e) := cells_lt (by have := h.s2; omega) _ _
/-- no piece is missing: there are no twins -/
theorem nomiss_notw {R : Rule} (h : R.ok) (hm : ∀ u, Wd R u → 0 < cN R u) : NoTw R := by
  intro e cs cs' he hc hc' ho hr
  apply Classical.byContradiction
  intro hne
  obtain ⟨v, hv, hmin⟩ := exMin R (cN R)
  -- round about
  let A := cs ++ cells R.s (R.w - 1) e
  let B := cs' ++ cells R.s (R.w - 1) e
  have hAB : A ≠ B := fun z => hne (List.append_cancel_right z)
  let r := outsE R e A
  have hrA : runE R e A = e := by show runE R e (cs ++ _) = e; rw [runE_append]; exact run_cells h (runE_lt h he cs) he
  have hrB : runE R e B = e := by show runE R e (cs' ++ _) = e; rw [runE_append]; exact run_cells h (runE_lt h he cs') he
  have hoB : outsE R e B = r := by show outsE R e (cs' ++ _) = outsE R e (cs ++ _); rw [outsE_append, outsE_append, ho, hr]
  have mA : A ∈ extN R e r := (mem_extN _ _ _).mpr ⟨hc.app (cells_wd h e), rfl⟩
  have mB : B ∈ extN R e r := (mem_extN _ _ _).mpr ⟨hc'.app (cells_wd h e), hoB⟩
  have pw : ∀ j, 2 ^ j ≤ kN R e (List.replicate j r).flatten := by
    intro j
    induction j with
    | zero => exact Nat.le_refl 1
    | succ j ih =>
      rw [List.replicate_succ, List.flatten_cons, kN_append, Nat.pow_succ]
      have := sum_two (fun cs => kN R (runE R e cs) (List.replicate j r).flatten) _ A B mA mB hAB
      simp only [hrA, hrB] at this
      omega
  -- a way there from an origin of v
  have hv0 := hm v hv
  obtain ⟨x, hx⟩ : ∃ x, x ∈ origN R v := by
    unfold cN at hv0
    cases q : origN R v with
    | nil => rw [q] at hv0; simp at hv0
    | cons x l => exact ⟨x, List.mem_cons_self⟩
  rw [origN_ext h, List.mem_flatMap] at hx
  obtain ⟨e0, he0, hx⟩ := hx
  obtain ⟨y, hy, _⟩ := List.mem_map.mp hx
  have he0 := List.mem_range.mp he0
  obtain ⟨y1, y2⟩ := (mem_extN _ _ _).mp hy
  let Y := y ++ cells R.s (R.w - 1) e
  let tl := outsE R (runE R e0 y) (cells R.s (R.w - 1) e)
  have hoY : outsE R e0 Y = v ++ tl := by show outsE R e0 (y ++ _) = _; rw [outsE_append, y2]
  have hrY : runE R e0 Y = e := by show runE R e0 (y ++ _) = e; rw [runE_append]; exact run_cells h (runE_lt h he0 y) he
  have mY : Y ∈ extN R e0 (v ++ tl) := (mem_extN _ _ _).mpr ⟨Wd.app y1 (cells_wd h e), hoY⟩
  have big : ∀ j, 2 ^ j ≤ cN R v := by
    intro j
    have wr : Wd R (List.replicate j r).flatten := by
      intro z hz
      rw [List.mem_flatten] at hz
      obtain ⟨l, hl, hz⟩ := hz
      rw [(List.mem_replicate.mp hl).2] at hz
      exact outsE_wd h A e z hz
    have e1 := min_right h hv hmin (tl ++ (List.replicate j r).flatten) ((outsE_wd h _ _).app wr)
    have e2 : kN R e (List.replicate j r).flatten ≤ kN R e0 (v ++ tl ++ (List.replicate j r).flatten) := by
      rw [kN_append]
      have := sum_one (fun cs => kN R (runE R e0 cs) (List.replicate j r).flatten) _ Y mY
      simp only [hrY] at this
      exact this
    have e3 : kN R e0 (v ++ tl ++ (List.replicate j r).flatten) ≤ cN R (v ++ tl ++ (List.replicate j r).flatten) := by
      rw [cN_eq h]
      exact sum_one (fun e => kN R e (v ++ tl ++ (List.replicate j r).flatten)) _ e0 (List.mem_range.mpr he0)
    rw [← List.append_assoc] at e1
    have := pw j
    omega
  have := big (cN R v)
  have := Nat.lt_two_pow_self (n := cN R v)
  omega
theorem cN_pos {R : Rule} (h : R.ok) (u : List Nat) : 0 < cN R u ↔ endsN R u ≠ [] := by
  rw [ne_eq, ends_nil h, ← ne_eq, ← List.length_pos_iff]
  rfl
/-- where no piece is missing, all have as many origins -/
theorem nomiss_const {R : Rule} (h : R.ok) (hm : ∀ u, Wd R u → endsN R u ≠ []) (u : List Nat) (hu : Wd R u) : cN R u = manyE R :=
  notw_const h (nomiss_notw h fun v hv => (cN_pos h v).mpr (hm v hv)) u hu
theorem notw_nomiss {R : Rule} (h : R.ok) (ht : NoTw R) (u : List Nat) (hu : Wd R u) : endsN R u ≠ [] :=
  (cN_pos h u).mp (by rw [notw_const h ht u hu]; exact manyE_pos h)
/-- of all pieces of a size all origins -/
theorem rows_sum {R : Rule} (h : R.ok) : ∀ n, ((rowsL R.s n).map (cN R)).sum = R.s ^ (n + (R.w - 1))
  | 0 => by
    show cN R [] + 0 = _
    rw [cN_nil h, Nat.zero_add]
    rfl
  | n + 1 => by
    rw [rowsL, List.map_flatMap]
    have : ∀ L : List (List Nat), (L.flatMap fun r => ((List.range R.s).map fun c => r ++ [c]).map (cN R)).sum = R.s * (L.map (cN R)).sum := by
      intro L
      induction L with
      | nil => simp
      | cons r L ih =>
        rw [List.flatMap_cons, List.sum_append, ih, List.map_cons, List.sum_cons, Nat.mul_add, List.map_map]
        congr 1
        exact cN_right h r
    rw [this, rows_sum h n, Nat.mul_comm, ← Nat.pow_succ]
    congr 1
    omega

/-! ### a search by breadth, whatever is searched -/
section
variable {κ σ : Type} [DecidableEq κ]
def bKeys (m : List (κ × σ)) : List κ := m.map (·.1)
def bPut (m : List (κ × σ)) (q : κ × σ) : List (κ × σ) := if q.1 ∈ bKeys m then m else m ++ [q]
def bStep (sc : κ × σ → List (κ × σ)) (m : List (κ × σ)) (i : Nat) : List (κ × σ) := match m[i]? with
  | none => m
  | some p => (sc p).foldl bPut m
def bRun (sc : κ × σ → List (κ × σ)) (m0 : List (κ × σ)) : Nat → List (κ × σ)
  | 0 => m0
  | i + 1 => bStep sc (bRun sc m0 i) i
theorem bPut_pre (m : List (κ × σ)) (q : κ × σ) : m <+: bPut m q := by
  unfold bPut
  split
  · exact List.prefix_refl _
  · exact List.prefix_append _ _
theorem bFold_pre : ∀ (l m : List (κ × σ)), m <+: l.foldl bPut m
  | [], m => List.prefix_refl _
  | a :: l, m => (bPut_pre m a).trans (bFold_pre l (bPut m a))
theorem bStep_pre (sc : κ × σ → List (κ × σ)) (m : List (κ × σ)) (i : Nat) : m <+: bStep sc m i := by
  unfold bStep
  split
  · exact List.prefix_refl _
  · exact bFold_pre _ m
variable {sc : κ × σ → List (κ × σ)} {m0 : List (κ × σ)}
theorem bRun_pre (i : Nat) : ∀ k, bRun sc m0 i <+: bRun sc m0 (i + k)
  | 0 => List.prefix_refl _
  | k + 1 => (bRun_pre i k).trans (bStep_pre sc _ _)
theorem bRun_pre' {i j : Nat} (h : i ≤ j) : bRun sc m0 i <+: bRun sc m0 j := by
  have := bRun_pre (sc := sc) (m0 := m0) i (j - i)
  rwa [Nat.add_sub_cancel' h] at this
theorem bRun_stop {i : Nat} (h : (bRun sc m0 i).length ≤ i) : ∀ k, bRun sc m0 (i + k) = bRun sc m0 i
  | 0 => rfl
  | k + 1 => by
    have ih := bRun_stop h k
    show bStep sc (bRun sc m0 (i + k)) (i + k) = _
    rw [ih]
    unfold bStep
    rw [List.getElem?_eq_none (by omega)]
theorem bPut_nodup {m : List (κ × σ)} {q : κ × σ} (h : (bKeys m).Nodup) : (bKeys (bPut m q)).Nodup := by
  unfold bPut
  split
  · exact h
  · rename_i hn
    unfold bKeys at h hn ⊢
    rw [List.map_append, List.nodup_append]
    exact ⟨h, by simp, fun a ha b hb => by
      simp at hb
      subst hb
      intro z
      exact hn (z ▸ ha)⟩
theorem bFold_inv {P : List (κ × σ) → Prop} : ∀ (l m : List (κ × σ)), (∀ m a, a ∈ l → P m → P (bPut m a)) → P m → P (l.foldl bPut m)
  | [], _, _, h => h
  | a :: l, m, hf, h => bFold_inv l (bPut m a) (fun m b hb => hf m b (List.mem_cons_of_mem _ hb)) (hf m a List.mem_cons_self h)
theorem bRun_step {i : Nat} {p : κ × σ} (e : (bRun sc m0 i)[i]? = some p) : bRun sc m0 (i + 1) = (sc p).foldl bPut (bRun sc m0 i) := by
  show bStep sc (bRun sc m0 i) i = _
  unfold bStep
  rw [e]
theorem bRun_nodup (h0 : (bKeys m0).Nodup) : ∀ i, (bKeys (bRun sc m0 i)).Nodup
  | 0 => h0
  | i + 1 => by
    have ih := bRun_nodup h0 i
    show (bKeys (bStep sc (bRun sc m0 i) i)).Nodup
    unfold bStep
    split
    · exact ih
    · exact bFold_inv (P := fun m => (bKeys m).Nodup) _ _ (fun m a _ h => bPut_nodup h) ih
/-- what holds of the first ones, and of what a step makes of one of which it holds -/
theorem bRun_all {P : κ × σ → Prop} (h0 : ∀ p ∈ m0, P p) (hs : ∀ p, P p → ∀ q ∈ sc p, P q) : ∀ i, ∀ p ∈ bRun sc m0 i, P p
  | 0 => h0
  | i + 1 => by
    have ih := bRun_all h0 hs i
    show ∀ p ∈ bStep sc (bRun sc m0 i) i, P p
    unfold bStep
    cases q : (bRun sc m0 i)[i]? with
    | none => exact ih
    | some p0 =>
      have hp0 := ih p0 (List.mem_of_getElem? q)
      refine bFold_inv (P := fun m => ∀ p ∈ m, P p) _ _ (fun m a ha hm p hp => ?_) ih
      unfold bPut at hp
      split at hp
      · exact hm p hp
      · rcases List.mem_append.mp hp with hp | hp
        · exact hm p hp
        · rw [List.mem_singleton] at hp
          subst hp
          exact hs p0 hp0 _ ha
theorem bFold_has : ∀ (l m : List (κ × σ)) (a : κ × σ), a ∈ l → a.1 ∈ bKeys (l.foldl bPut m)
  | b :: l, m, a, h => by
    rcases List.mem_cons.mp h with rfl | h
    · have h1 : a.1 ∈ bKeys (bPut m a) := by
        unfold bPut
        split
        · assumption
        · unfold bKeys; simp
      exact ((bFold_pre l (bPut m a)).map (·.1)).subset h1
    · exact bFold_has l _ a h
/-- the order of lengths -/
def bOrd (len : σ → Nat) (m : List (κ × σ)) : Prop := m.Pairwise fun p q => len p.2 ≤ len q.2
theorem bFold_ord {len : σ → Nat} {n : Nat} : ∀ (l m : List (κ × σ)), (∀ p ∈ l, len p.2 = n + 1) → bOrd len m → (∀ p ∈ m, len p.2 ≤ n + 1) → bOrd len (l.foldl bPut m) ∧ ∀ p ∈ l.foldl bPut m, len p.2 ≤ n + 1
  | [], m, _, h, g => ⟨h, g⟩
  | a :: l, m, hl, h, g => by
    refine bFold_ord l _ (fun p hp => hl p (List.mem_cons_of_mem _ hp)) ?_ ?_
    · unfold bPut
      split
      · exact h
      · unfold bOrd at h ⊢
        rw [List.pairwise_append]
        refine ⟨h, List.pairwise_singleton _ _, fun p hp q hq => ?_⟩
        rw [List.mem_singleton] at hq
        subst hq
        have h1 := g p hp
        have h2 := hl q List.mem_cons_self
        omega
    · intro p hp
      unfold bPut at hp
      split at hp
      · exact g p hp
      · rcases List.mem_append.mp hp with hp | hp
        · exact g p hp
        · rw [List.mem_singleton] at hp
          subst hp
          have h2 := hl p List.mem_cons_self
          omega
theorem bRun_ord {len : σ → Nat} (h0 : ∀ p ∈ m0, len p.2 = 1) (hs : ∀ p, ∀ q ∈ sc p, len q.2 = len p.2 + 1) : ∀ i, bOrd len (bRun sc m0 i) ∧ ∀ q, (bRun sc m0 i)[i]? = some q → ∀ p ∈ bRun sc m0 i, len p.2 ≤ len q.2 + 1
  | 0 => by
    refine ⟨?_, fun q hq p hp => ?_⟩
    · show bOrd len m0
      unfold bOrd
      have : ∀ l : List (κ × σ), (∀ p ∈ l, len p.2 = 1) → l.Pairwise fun p q => len p.2 ≤ len q.2 := by
        intro l
        induction l with
        | nil => intro _; exact List.Pairwise.nil
        | cons a l ih =>
          intro h
          refine List.Pairwise.cons (fun b hb => ?_) (ih fun p hp => h p (List.mem_cons_of_mem _ hp))
          rw [h a List.mem_cons_self, h b (List.mem_cons_of_mem _ hb)]
          exact Nat.le_refl _
      exact this m0 h0
    · have hp : p ∈ m0 := hp
      rw [h0 p hp]
      omega
  | i + 1 => by
    obtain ⟨h1, h2⟩ := bRun_ord h0 hs i
    cases q : (bRun sc m0 i)[i]? with
    | none =>
      have e : bRun sc m0 (i + 1) = bRun sc m0 i := by
        show bStep sc (bRun sc m0 i) i = _
        unfold bStep
        rw [q]
      have hl := List.getElem?_eq_none_iff.mp q
      rw [e]
      refine ⟨h1, fun q2 hq2 => ?_⟩
      rw [List.getElem?_eq_none (by omega)] at hq2
      cases hq2
    | some q0 =>
      obtain ⟨f1, f2⟩ := bFold_ord (len := len) (sc q0) (bRun sc m0 i) (fun p hp => hs q0 p hp) h1 (h2 q0 q)
      rw [← bRun_step q] at f1 f2
      refine ⟨f1, fun q2 hq2 p hp => ?_⟩
      obtain ⟨c1, c2⟩ := List.getElem?_eq_some_iff.mp q
      have e0 : (bRun sc m0 (i + 1))[i]? = some q0 := by
        obtain ⟨t, ht⟩ := bRun_pre' (sc := sc) (m0 := m0) (Nat.le_succ i)
        rw [← ht, List.getElem?_append_left c1]
        exact q
      obtain ⟨a1, a2⟩ := List.getElem?_eq_some_iff.mp e0
      obtain ⟨b1, b2⟩ := List.getElem?_eq_some_iff.mp hq2
      have hle : len q0.2 ≤ len q2.2 := by
        have := List.pairwise_iff_getElem.mp f1 i (i + 1) a1 b1 (by omega)
        rw [a2, b2] at this
        exact this
      have := f2 p hp
      omega
/-- the end of the search: at i all are seen -/
structure bEnd (sc : κ × σ → List (κ × σ)) (m0 : List (κ × σ)) (T : Nat) : Prop where
  len : ∀ i, (bRun sc m0 i).length ≤ T
theorem bEnd.fin {T : Nat} (E : bEnd sc m0 T) {i : Nat} (hl : (bRun sc m0 i).length ≤ i) : bRun sc m0 (T + 1) = bRun sc m0 i := by
  by_cases h : i ≤ T + 1
  · have := bRun_stop hl (T + 1 - i)
    rwa [Nat.add_sub_cancel' h] at this
  · have h1 : (bRun sc m0 (T + 1)).length ≤ T + 1 := Nat.le_succ_of_le (E.len _)
    have := bRun_stop h1 (i - (T + 1))
    rw [Nat.add_sub_cancel' (by omega)] at this
    exact this.symm
theorem bEnd.at {T : Nat} (E : bEnd sc m0 T) {i : Nat} {p : κ × σ} (h : (bRun sc m0 (T + 1))[i]? = some p) : (bRun sc m0 i)[i]? = some p := by
  have hi := (List.getElem?_eq_some_iff.mp h).1
  have hT := E.len (T + 1)
  have hil : i < (bRun sc m0 i).length := by
    rcases Nat.lt_or_ge i (bRun sc m0 i).length with z | z
    · exact z
    · rw [E.fin z] at hi
      omega
  obtain ⟨t, ht⟩ := bRun_pre' (sc := sc) (m0 := m0) (show i ≤ T + 1 by omega)
  rw [← ht, List.getElem?_append_left hil] at h
  exact h
theorem bEnd.pre {T : Nat} (E : bEnd sc m0 T) (i : Nat) : bRun sc m0 i <+: bRun sc m0 (T + 1) := by
  by_cases h : i ≤ T + 1
  · exact bRun_pre' h
  · have h1 : (bRun sc m0 (T + 1)).length ≤ T + 1 := Nat.le_succ_of_le (E.len _)
    have := bRun_stop h1 (i - (T + 1))
    rw [Nat.add_sub_cancel' (by omega)] at this
    rw [this]
    exact List.prefix_refl _
/-- what a step makes of one that is met is met, and no further than that -/
theorem bEnd.next {T : Nat} (E : bEnd sc m0 T) {len : σ → Nat} (h0 : ∀ p ∈ m0, len p.2 = 1) (hs : ∀ p, ∀ q ∈ sc p, len q.2 = len p.2 + 1) {p q : κ × σ} (hp : p ∈ bRun sc m0 (T + 1)) (hq : q ∈ sc p) : ∃ r ∈ bRun sc m0 (T + 1), r.1 = q.1 ∧ len r.2 ≤ len p.2 + 1 := by
  obtain ⟨i, hi, e⟩ := List.getElem_of_mem hp
  have ei := E.at (i := i) (p := p) (by rw [List.getElem?_eq_getElem hi, e])
  obtain ⟨_, f3⟩ := bFold_ord (len := len) (sc p) (bRun sc m0 i) (fun x hx => hs p x hx) (bRun_ord h0 hs i).1 ((bRun_ord h0 hs i).2 p ei)
  have hk := bFold_has (sc p) (bRun sc m0 i) q hq
  obtain ⟨r, hr, hre⟩ := List.mem_map.mp hk
  have := f3 r hr
  rw [← bRun_step ei] at hr
  exact ⟨r, (E.pre (i + 1)).subset hr, hre, this⟩
end

/-! ### two rows side by side -/
abbrev Pr := Nat × Nat
def okW (R : Rule) (p c : Pr) : Prop := c.1 < R.s ∧ c.2 < R.s ∧ outE R p.1 c.1 = outE R p.2 c.2
def nxW (R : Rule) (p c : Pr) : Pr := (nxE R p.1 c.1, nxE R p.2 c.2)
def validW (R : Rule) : Pr → List Pr → Prop
  | _, [] => True
  | p, c :: w => okW R p c ∧ validW R (nxW R p c) w
def endW (R : Rule) (p : Pr) (w : List Pr) : Pr := w.foldl (nxW R) p
/-- the steps from a pair: where to, by which cells -/
def pairsN (R : Rule) (p : Pr) : List (Pr × Pr) := (List.range R.s).flatMap fun a => ((List.range R.s).filter fun b => decide (outE R p.1 a = outE R p.2 b)).map fun b => (nxW R p (a, b), (a, b))
theorem mem_pairsN {R : Rule} {p q c : Pr} : (q, c) ∈ pairsN R p ↔ okW R p c ∧ q = nxW R p c := by
  unfold pairsN
  rw [List.mem_flatMap]
  constructor
  · rintro ⟨a, ha, h⟩
    obtain ⟨b, hb, e⟩ := List.mem_map.mp h
    rw [List.mem_filter, decide_eq_true_eq] at hb
    cases e
    exact ⟨⟨List.mem_range.mp ha, List.mem_range.mp hb.1, hb.2⟩, rfl⟩
  · rintro ⟨⟨h1, h2, h3⟩, rfl⟩
    refine ⟨c.1, List.mem_range.mpr h1, List.mem_map.mpr ⟨c.2, ?_, rfl⟩⟩
    rw [List.mem_filter, decide_eq_true_eq]
    exact ⟨List.mem_range.mpr h2, h3⟩
def okP (R : Rule) (p : Pr) : Prop := p.1 < manyE R ∧ p.2 < manyE R
theorem nxW_ok {R : Rule} (h : R.ok) (p c : Pr) : okP R (nxW R p c) := ⟨nxE_lt h _ _, nxE_lt h _ _⟩
theorem endW_append (R : Rule) (p : Pr) (u v : List Pr) : endW R p (u ++ v) = endW R (endW R p u) v := by simp [endW]
theorem validW_append (R : Rule) : ∀ (u v : List Pr) (p : Pr), validW R p (u ++ v) ↔ validW R p u ∧ validW R (endW R p u) v
  | [], v, p => by simp [validW, endW]
  | c :: u, v, p => by
    rw [List.cons_append, validW, validW, validW_append R u v, and_assoc]
    rfl
theorem endW_ok {R : Rule} (h : R.ok) {p : Pr} (hp : okP R p) (w : List Pr) : okP R (endW R p w) := by
  rcases List.eq_nil_or_concat w with rfl | ⟨v, a, rfl⟩
  · exact hp
  · rw [List.concat_eq_append, endW_append]
    exact nxW_ok h _ _
theorem endW_runs (R : Rule) : ∀ (w : List Pr) (p : Pr), endW R p w = (runE R p.1 (w.map (·.1)), runE R p.2 (w.map (·.2)))
  | [], p => rfl
  | c :: w, p => by
    have : endW R p (c :: w) = endW R (nxW R p c) w := rfl
    rw [this, endW_runs R w]
    rfl
theorem validW_outs (R : Rule) : ∀ (w : List Pr) (p : Pr), validW R p w ↔ (∀ c ∈ w, c.1 < R.s ∧ c.2 < R.s) ∧ outsE R p.1 (w.map (·.1)) = outsE R p.2 (w.map (·.2))
  | [], p => by simp [validW, outsE]
  | c :: w, p => by
    rw [validW, validW_outs R w, List.map_cons, List.map_cons, outsE, outsE]
    unfold okW
    constructor
    · rintro ⟨⟨h1, h2, h3⟩, h4, h5⟩
      refine ⟨fun x hx => ?_, ?_⟩
      · rcases List.mem_cons.mp hx with rfl | hx
        · exact ⟨h1, h2⟩
        · exact h4 x hx
      · rw [h3]
        congr 1
    · rintro ⟨h1, h2⟩
      injection h2 with h3 h4
      exact ⟨⟨(h1 c List.mem_cons_self).1, (h1 c List.mem_cons_self).2, h3⟩, fun x hx => h1 x (List.mem_cons_of_mem _ hx), h4⟩
/-- a way from a pair, the first cells unlike -/
def unl (w : List Pr) : Prop := match w with
  | [] => False
  | c :: _ => c.1 ≠ c.2
structure WayW (R : Rule) (p : Pr) (G : List Pr) (w : List Pr) : Prop where
  v : validW R p w
  u : unl w
  g : endW R p w ∈ G
abbrev EW := Pr × List Pr
/-- what the search goes on to -/
def scW (R : Rule) (e : EW) : List EW := (pairsN R e.1).map fun t => (t.1, e.2 ++ [t.2])
def startW (R : Rule) (p : Pr) : List EW := (((pairsN R p).filter fun t => decide (t.2.1 ≠ t.2.2)).map fun t => (t.1, [t.2])).foldl bPut []
def runW (R : Rule) (p : Pr) (i : Nat) : List EW := bRun (scW R) (startW R p) i
theorem codeP_inj {M : Nat} {a b c d : Nat} (hb : b < M) (hd : d < M) (h : a * M + b = c * M + d) : a = c ∧ b = d := by
  have h1 := congrArg (· % M) h
  simp only [Nat.mul_comm _ M, Nat.mul_add_mod, Nat.mod_eq_of_lt hb, Nat.mod_eq_of_lt hd] at h1
  subst h1
  refine ⟨?_, rfl⟩
  have h2 : a * M = c * M := by omega
  exact Nat.eq_of_mul_eq_mul_right (by omega) h2
theorem pairs_few {R : Rule} {l : List Pr} (hn : l.Nodup) (hb : ∀ p ∈ l, okP R p) : l.length ≤ manyE R * manyE R := by
  have h2 : (l.map fun p : Pr => p.1 * manyE R + p.2).Nodup := by
    rw [List.nodup_iff_pairwise_ne, List.pairwise_map]
    refine (List.nodup_iff_pairwise_ne.mp hn).imp_of_mem fun {a b} ha hb' hne z => hne ?_
    obtain ⟨e1, e2⟩ := codeP_inj (hb a ha).2 (hb b hb').2 z
    exact Prod.ext e1 e2
  have := nodup_len (M := manyE R * manyE R) h2 fun o ho => by
    obtain ⟨p, hp, rfl⟩ := List.mem_map.mp ho
    obtain ⟨h1, h2⟩ := hb p hp
    have : (p.1 + 1) * manyE R ≤ manyE R * manyE R := Nat.mul_le_mul_right _ h1
    rw [Nat.add_mul, Nat.one_mul] at this
    omega
  rwa [List.length_map] at this
theorem sq64 {R : Rule} (h : R.ok) : manyE R * manyE R ≤ 64 := Nat.mul_le_mul (manyE_le h) (manyE_le h)
theorem startW_mem {R : Rule} {p : Pr} : ∀ e ∈ startW R p, ∃ c, e.2 = [c] ∧ okW R p c ∧ c.1 ≠ c.2 ∧ e.1 = nxW R p c := by
  unfold startW
  refine bFold_inv (P := fun m : List EW => ∀ e ∈ m, ∃ c, e.2 = [c] ∧ okW R p c ∧ c.1 ≠ c.2 ∧ e.1 = nxW R p c) _ _ (fun m a ha hm e he => ?_) (fun e he => by cases he)
  unfold bPut at he
  split at he
  · exact hm e he
  · rcases List.mem_append.mp he with he | he
    · exact hm e he
    · rw [List.mem_singleton] at he
      subst he
      obtain ⟨t, ht, rfl⟩ := List.mem_map.mp ha
      rw [List.mem_filter, decide_eq_true_eq] at ht
      obtain ⟨q, c⟩ := t
      obtain ⟨h1, h2⟩ := mem_pairsN.mp ht.1
      exact ⟨c, rfl, h1, ht.2, h2⟩
theorem startW_nodup (R : Rule) (p : Pr) : (bKeys (startW R p)).Nodup := bFold_inv (P := fun m : List EW => (bKeys m).Nodup) _ _ (fun m a _ h => bPut_nodup h) List.nodup_nil
/-- what an entry tells -/
def EntW (R : Rule) (p : Pr) (e : EW) : Prop := validW R p e.2 ∧ unl e.2 ∧ endW R p e.2 = e.1
theorem runW_ent (R : Rule) (p : Pr) (i : Nat) : ∀ e ∈ runW R p i, EntW R p e := by
  refine bRun_all (P := EntW R p) (fun e he => ?_) (fun e he q hq => ?_) i
  · obtain ⟨c, h1, h2, h3, h4⟩ := startW_mem e he
    unfold EntW
    rw [h1]
    exact ⟨⟨h2, trivial⟩, h3, h4.symm⟩
  · obtain ⟨t, ht, rfl⟩ := List.mem_map.mp hq
    obtain ⟨q, c⟩ := t
    obtain ⟨h1, h2⟩ := mem_pairsN.mp ht
    obtain ⟨v, u, g⟩ := he
    refine ⟨?_, ?_, ?_⟩
    · show validW R p (e.2 ++ [c])
      rw [validW_append, g]
      exact ⟨v, h1, trivial⟩
    · show unl (e.2 ++ [c])
      cases hw : e.2 with
      | nil => rw [hw] at u; exact u.elim
      | cons a r => rw [hw] at u; exact u
    · show endW R p (e.2 ++ [c]) = q
      rw [endW_append, g, h2]
      rfl
theorem runW_nodup (R : Rule) (p : Pr) (i : Nat) : (bKeys (runW R p i)).Nodup := bRun_nodup (startW_nodup R p) i
theorem ent_ne {R : Rule} {p : Pr} {e : EW} (h : EntW R p e) : e.2 ≠ [] := fun z => by
  have := h.2.1
  rw [z] at this
  exact this
theorem ent_ok {R : Rule} (hR : R.ok) {p : Pr} {e : EW} (h : EntW R p e) : okP R e.1 := by
  have hne := ent_ne h
  rw [← h.2.2]
  rcases List.eq_nil_or_concat e.2 with z | ⟨v, a, z⟩
  · exact absurd z hne
  · rw [z, List.concat_eq_append, endW_append]
    exact nxW_ok hR _ _
theorem runW_len {R : Rule} (h : R.ok) (p : Pr) (i : Nat) : (runW R p i).length ≤ 64 := by
  have := pairs_few (R := R) (runW_nodup R p i) fun q hq => by
    obtain ⟨e, he, rfl⟩ := List.mem_map.mp hq
    exact ent_ok h (runW_ent R p i e he)
  unfold bKeys at this
  rw [List.length_map] at this
  exact Nat.le_trans this (sq64 h)
theorem runW_end {R : Rule} (h : R.ok) (p : Pr) : bEnd (scW R) (startW R p) 64 := ⟨fun i => runW_len h p i⟩
@[irreducible] def finW (R : Rule) (p : Pr) : List EW := runW R p 65
theorem finW_eq (R : Rule) (p : Pr) : finW R p = bRun (scW R) (startW R p) (64 + 1) := by unfold finW; rfl
theorem lenW0 {R : Rule} {p : Pr} : ∀ e ∈ startW R p, e.2.length = 1 := fun e he => by
  obtain ⟨c, h1, _⟩ := startW_mem e he
  rw [h1]
  rfl
theorem lenWs {R : Rule} : ∀ e, ∀ q ∈ scW R e, q.2.length = e.2.length + 1 := fun e q hq => by
  obtain ⟨t, _, rfl⟩ := List.mem_map.mp hq
  simp
/-- each way is met, by one that is no longer -/
theorem finW_all {R : Rule} (h : R.ok) {p : Pr} (w : List Pr) (hv : validW R p w) (hu : unl w) : ∃ e ∈ finW R p, e.1 = endW R p w ∧ e.2.length ≤ w.length := by
  induction w using snocInd with
  | h0 => exact hu.elim
  | h1 w c ih =>
    rw [validW_append] at hv
    obtain ⟨hv1, hv2⟩ := hv
    cases hw : w with
    | nil =>
      rw [hw] at hv2 hu
      have hm : (nxW R p c, [c]) ∈ ((pairsN R p).filter fun t => decide (t.2.1 ≠ t.2.2)).map fun t => (t.1, [t.2]) := by
        refine List.mem_map.mpr ⟨(nxW R p c, c), ?_, rfl⟩
        rw [List.mem_filter, decide_eq_true_eq]
        exact ⟨mem_pairsN.mpr ⟨hv2.1, rfl⟩, hu⟩
      have hk := bFold_has _ [] _ hm
      obtain ⟨e, he, hek⟩ := List.mem_map.mp hk
      refine ⟨e, ?_, hek, by have := lenW0 e he; rw [this]; simp⟩
      rw [finW_eq]
      exact ((runW_end h p).pre 0).subset he
    | cons a r =>
      have hu1 : unl w := by rw [hw] at hu ⊢; exact hu
      obtain ⟨e, he, h1, h2⟩ := ih hv1 hu1
      rw [finW_eq] at he
      obtain ⟨e2, he2, h3, h4⟩ := (runW_end h p).next (len := List.length) lenW0 lenWs he (q := (nxW R e.1 c, e.2 ++ [c])) (List.mem_map.mpr ⟨(nxW R e.1 c, c), mem_pairsN.mpr ⟨by rw [h1]; exact hv2.1, rfl⟩, rfl⟩)
      rw [← hw]
      refine ⟨e2, by rw [finW_eq]; exact he2, ?_, by rw [List.length_append, List.length_singleton]; omega⟩
      rw [h3, endW_append, h1]
      rfl
/-- the first one that is met of the goals -/
def wayN' (R : Rule) (p : Pr) (G : List Pr) : Option (List Pr) := ((finW R p).find? fun e => decide (e.1 ∈ G)).map (·.2)
theorem wayN_some {R : Rule} (h : R.ok) {p : Pr} {G : List Pr} {w : List Pr} (hw : wayN' R p G = some w) : WayW R p G w ∧ ∀ w', WayW R p G w' → w.length ≤ w'.length := by
  unfold wayN' at hw
  cases q : (finW R p).find? fun e => decide (e.1 ∈ G) with
  | none => rw [q] at hw; cases hw
  | some e =>
    rw [q] at hw
    cases hw
    have hg0 := List.find?_some q
    have hg : e.1 ∈ G := of_decide_eq_true hg0
    have hm := List.mem_of_find?_eq_some q
    rw [finW_eq] at hm
    obtain ⟨v, u, g⟩ := runW_ent R p 65 e hm
    refine ⟨⟨v, u, by rw [g]; exact hg⟩, fun w' hw' => ?_⟩
    obtain ⟨e', he', h1, h2⟩ := finW_all h w' hw'.v hw'.u
    refine Nat.le_trans ?_ h2
    -- e stands ahead of e'
    have hord := (bRun_ord (sc := scW R) (len := List.length) (lenW0 (R := R) (p := p)) lenWs 65).1
    have hord : bOrd List.length (finW R p) := by rw [finW_eq]; exact hord
    rw [List.find?_eq_some_iff_append] at q
    obtain ⟨_, as, bs, hab, hno⟩ := q
    have hge : e'.1 ∈ G := by rw [h1]; exact hw'.g
    rw [hab] at he' hord
    rcases List.mem_append.mp he' with z | z
    · have := hno e' z
      rw [decide_eq_true hge] at this
      cases this
    · rcases List.mem_cons.mp z with rfl | z
      · exact Nat.le_refl _
      · unfold bOrd at hord
        rw [List.pairwise_append] at hord
        exact (List.pairwise_cons.mp hord.2.1).1 e' z
theorem wayN_none {R : Rule} (h : R.ok) {p : Pr} {G : List Pr} (hw : wayN' R p G = none) : ∀ w, ¬ WayW R p G w := by
  intro w hw'
  obtain ⟨e', he', h1, h2⟩ := finW_all h w hw'.v hw'.u
  unfold wayN' at hw
  rw [Option.map_eq_none_iff, List.find?_eq_none] at hw
  exact hw e' he' (decide_eq_true (by rw [h1]; exact hw'.g))
/-- what stands ahead of an entry's last step -/
theorem runW_prev {R : Rule} {p : Pr} : ∀ (i : Nat), ∀ e ∈ runW R p i, e.2.length = 1 ∨ (endW R p e.2.dropLast, e.2.dropLast) ∈ runW R p i
  | 0 => fun e he => .inl (lenW0 e he)
  | i + 1 => by
    have ih := runW_prev (R := R) (p := p) i
    show ∀ e ∈ bStep (scW R) (bRun (scW R) (startW R p) i) i, _ ∨ _ ∈ bStep (scW R) (bRun (scW R) (startW R p) i) i
    unfold bStep
    cases q : (bRun (scW R) (startW R p) i)[i]? with
    | none => exact ih
    | some p0 =>
      have hp0 := List.mem_of_getElem? q
      have hent := runW_ent R p i p0 hp0
      have key : ∀ (l m : List EW), (∀ x ∈ l, x ∈ scW R p0) → p0 ∈ m → (∀ e ∈ m, e.2.length = 1 ∨ (endW R p e.2.dropLast, e.2.dropLast) ∈ m) → ∀ e ∈ l.foldl bPut m, e.2.length = 1 ∨ (endW R p e.2.dropLast, e.2.dropLast) ∈ l.foldl bPut m := by
        intro l
        induction l with
        | nil => intro m _ _ h; exact h
        | cons a l ih2 =>
          intro m hl hm h
          refine ih2 _ (fun x hx => hl x (List.mem_cons_of_mem _ hx)) ((bPut_pre m a).subset hm) fun e he => ?_
          have sub : ∀ x, x ∈ m → x ∈ bPut m a := fun x hx => (bPut_pre m a).subset hx
          have he2 : e ∈ m ∨ e = a := by
            unfold bPut at he
            split at he
            · exact .inl he
            · rcases List.mem_append.mp he with he | he
              · exact .inl he
              · exact .inr (List.mem_singleton.mp he)
          rcases he2 with he2 | rfl
          · rcases h e he2 with z | z
            · exact .inl z
            · exact .inr (sub _ z)
          · refine .inr (sub _ ?_)
            obtain ⟨t, _, rfl⟩ := List.mem_map.mp (hl e List.mem_cons_self)
            have e1 : (p0.2 ++ [t.2]).dropLast = p0.2 := by simp
            show (endW R p (p0.2 ++ [t.2]).dropLast, (p0.2 ++ [t.2]).dropLast) ∈ m
            rw [e1, hent.2.2]
            exact hm
      exact key _ _ (fun x hx => hx) hp0 ih
theorem runW_pre' {R : Rule} {s : Pr} {i j : Nat} (h : i ≤ j) : runW R s i <+: runW R s j := bRun_pre' h
theorem runW_finpre {R : Rule} (h : R.ok) (s : Pr) (i : Nat) : runW R s i <+: finW R s := by rw [finW_eq]; exact (runW_end h s).pre i
theorem runW_fin {R : Rule} (h : R.ok) {s : Pr} {i : Nat} (hl : (runW R s i).length ≤ i) : finW R s = runW R s i := by rw [finW_eq]; exact (runW_end h s).fin hl
theorem runW_step {R : Rule} {s : Pr} {i : Nat} {e : EW} (ei : (runW R s i)[i]? = some e) : runW R s (i + 1) = (scW R e).foldl bPut (runW R s i) := bRun_step ei
theorem pre_at {α : Type} {l l' : List α} (h : l <+: l') {i : Nat} (hi : i < l.length) : l[i]? = l'[i]? := by
  obtain ⟨t, rfl⟩ := h
  rw [List.getElem?_append_left hi]

/-! ### pairs, ways as data -/
abbrev lP (p : Pr) : List Nat := [p.1, p.2]
abbrev encP (p : Pr) : PyData := nT (lP p)
theorem encP_eq (p : Pr) : encP p = .tuple [nI p.1, nI p.2] := rfl
theorem lP_inj {p q : Pr} (h : lP p = lP q) : p = q := by
  injection h with h1 h2
  injection h2 with h2 _
  exact Prod.ext h1 h2
abbrev encT3 (t : Pr × Pr) : PyData := .tuple [encP t.1, nI t.2.1, nI t.2.2]
def allP (R : Rule) : List Pr := (List.range (manyE R * manyE R)).map fun n => (n / manyE R, n % manyE R)
theorem mem_allP {R : Rule} (h : R.ok) {p : Pr} : p ∈ allP R ↔ okP R p := by
  have hp := manyE_pos h
  unfold allP
  rw [List.mem_map]
  constructor
  · rintro ⟨n, hn, rfl⟩
    have hn := List.mem_range.mp hn
    exact ⟨Nat.div_lt_of_lt_mul hn, Nat.mod_lt _ hp⟩
  · rintro ⟨h1, h2⟩
    refine ⟨p.1 * manyE R + p.2, List.mem_range.mpr ?_, ?_⟩
    · have : (p.1 + 1) * manyE R ≤ manyE R * manyE R := Nat.mul_le_mul_right _ h1
      rw [Nat.add_mul, Nat.one_mul] at this
      omega
    · have e1 : (p.1 * manyE R + p.2) / manyE R = p.1 := by
        rw [Nat.mul_comm, Nat.mul_add_div hp, Nat.div_eq_of_lt h2, Nat.add_zero]
      have e2 : (p.1 * manyE R + p.2) % manyE R = p.2 := by
        rw [Nat.mul_comm, Nat.mul_add_mod, Nat.mod_eq_of_lt h2]
      exact Prod.ext e1 e2
theorem allP_nodup {R : Rule} (h : R.ok) : (allP R).Nodup := by
  have hp := manyE_pos h
  unfold allP
  rw [List.nodup_iff_pairwise_ne, List.pairwise_map]
  refine List.pairwise_lt_range.imp fun {a b} hab z => ?_
  injection z with z1 z2
  have h1 := Nat.div_add_mod a (manyE R)
  have h2 := Nat.div_add_mod b (manyE R)
  rw [z1, z2] at h1
  omega
theorem pairsN_len (R : Rule) (p : Pr) : (pairsN R p).length ≤ R.s * R.s := by
  unfold pairsN
  rw [List.length_flatMap]
  have := sum_le (fun a => (((List.range R.s).filter fun b => decide (outE R p.1 a = outE R p.2 b)).map fun b => (nxW R p (a, b), (a, b))).length) R.s (List.range R.s) fun a _ => by
    have := List.length_filter_le (fun b => decide (outE R p.1 a = outE R p.2 b)) (List.range R.s)
    rw [List.length_range] at this
    rw [List.length_map]
    exact this
  rwa [List.length_range] at this
/-- all steps, as the program has them -/
def stepsL (R : Rule) : List (List Nat × PyData) := (allP R).map fun p => (lP p, .list ((pairsN R p).map encT3))
theorem stepsL_nodup {R : Rule} (h : R.ok) : ((stepsL R).map (·.1)).Nodup := by
  unfold stepsL
  rw [List.map_map, List.nodup_iff_pairwise_ne, List.pairwise_map]
  exact (List.nodup_iff_pairwise_ne.mp (allP_nodup h)).imp fun hne z => hne (lP_inj z)
abbrev stepsD (R : Rule) : PyData := .dict (dOfT (encQ (stepsL R)))
theorem lookT_mem {L : List (List Nat × PyData)} (hn : (L.map (·.1)).Nodup) {k : List Nat} {x : PyData} (h : (k, x) ∈ L) : lookT (encQ L) (keyN k) = some x := by
  induction L with
  | nil => cases h
  | cons q L ih =>
    rw [List.map_cons, List.nodup_cons] at hn
    unfold lookT encQ
    rw [List.map_cons]
    rcases List.mem_cons.mp h with e | h
    · subst e
      rw [List.find?_cons_of_pos (by simp)]
      rfl
    · have hne : q.1 ≠ k := fun z => hn.1 (List.mem_map.mpr ⟨(k, x), h, z.symm⟩)
      rw [List.find?_cons_of_neg (by simp; exact fun z => hne (keyN_inj z))]
      exact ih hn.2 h
theorem lookT_none {L : List (List Nat × PyData)} {k : List Nat} : lookT (encQ L) (keyN k) = none ↔ k ∉ L.map (·.1) := by
  unfold lookT encQ
  rw [Option.map_eq_none_iff, List.find?_eq_none]
  constructor
  · intro h hm
    obtain ⟨q, hq, rfl⟩ := List.mem_map.mp hm
    exact h (keyN q.1, q.2) (List.mem_map.mpr ⟨q, hq, rfl⟩) (by simp)
  · intro h q hq z
    obtain ⟨q', hq', rfl⟩ := List.mem_map.mp hq
    have := keyN_inj (of_decide_eq_true z)
    exact h (List.mem_map.mpr ⟨q', hq', this⟩)
theorem lookT_some {L : List (List Nat × PyData)} {k : List Nat} : (lookT (encQ L) (keyN k)).isSome = decide (k ∈ L.map (·.1)) := by
  cases q : lookT (encQ L) (keyN k) with
  | none => rw [decide_eq_false (lookT_none.mp q)]; rfl
  | some x =>
    have : k ∈ L.map (·.1) := by
      by_cases h : k ∈ L.map (·.1)
      · exact h
      · rw [lookT_none.mpr h] at q; cases q
    rw [decide_eq_true this]; rfl
theorem putD_new {L : List (List Nat × PyData)} {k : List Nat} {x : PyData} (h : k ∉ L.map (·.1)) : putD (encQ L) (keyN k) x = encQ (L ++ [(k, x)]) := by
  have hn : ((encQ L).any fun q => decide (q.1 = keyN k)) = false := by
    rw [List.any_eq_false]
    intro q hq z
    obtain ⟨p, hp, rfl⟩ := List.mem_map.mp hq
    exact h (List.mem_map.mpr ⟨p, hp, keyN_inj (of_decide_eq_true z)⟩)
  unfold putD
  rw [hn, if_neg Bool.false_ne_true]
  unfold encQ
  rw [List.map_append]
  rfl
theorem encQ_len (L : List (List Nat × PyData)) : (encQ L).length = L.length := by unfold encQ; rw [List.length_map]
theorem look_steps {R : Rule} (h : R.ok) {p : Pr} (hp : okP R p) : lookT (encQ (stepsL R)) (keyN (lP p)) = some (.list ((pairsN R p).map encT3)) :=
  lookT_mem (stepsL_nodup h) (List.mem_map.mpr ⟨p, (mem_allP h).mpr hp, rfl⟩)
/-- what the search has met, as the program has it: whence, by which cells -/
def prevD (R : Rule) (s : Pr) (w : List Pr) : PyData := if w.length = 1 then .none else encP (endW R s w.dropLast)
def cameV (R : Rule) (s : Pr) (w : List Pr) : PyData := .tuple [prevD R s w, nI (w.getLastD (0, 0)).1, nI (w.getLastD (0, 0)).2]
def cameL (R : Rule) (s : Pr) (m : List EW) : List (List Nat × PyData) := m.map fun e => (lP e.1, cameV R s e.2)
theorem cameL_keys (R : Rule) (s : Pr) (m : List EW) (p : Pr) : lP p ∈ (cameL R s m).map (·.1) ↔ p ∈ bKeys m := by
  unfold cameL bKeys
  rw [List.map_map, List.mem_map, List.mem_map]
  constructor
  · rintro ⟨e, he, h⟩; exact ⟨e, he, lP_inj h⟩
  · rintro ⟨e, he, rfl⟩; exact ⟨e, he, rfl⟩
theorem cameL_nodup {R : Rule} {s : Pr} {m : List EW} (h : (bKeys m).Nodup) : ((cameL R s m).map (·.1)).Nodup := by
  unfold cameL
  unfold bKeys at h
  rw [List.map_map, List.nodup_iff_pairwise_ne, List.pairwise_map]
  rw [List.nodup_iff_pairwise_ne, List.pairwise_map] at h
  exact h.imp fun hne z => hne (lP_inj z)
theorem cameL_look {R : Rule} {s : Pr} {m : List EW} (h : (bKeys m).Nodup) {e : EW} (he : e ∈ m) : lookT (encQ (cameL R s m)) (keyN (lP e.1)) = some (cameV R s e.2) :=
  lookT_mem (cameL_nodup h) (List.mem_map.mpr ⟨e, he, rfl⟩)
theorem in_encPs (G : List Pr) (p : Pr) : ((G.map encP).any fun z => PyData.eqv z (encP p)) = decide (p ∈ G) := by
  have := in_nTs (G.map lP) (lP p)
  rw [List.map_map] at this
  have e : (lP p ∈ G.map lP) ↔ p ∈ G := by
    rw [List.mem_map]
    exact ⟨fun ⟨q, hq, z⟩ => lP_inj z ▸ hq, fun h => ⟨p, h, rfl⟩⟩
  rw [show (G.map encP) = G.map (nT ∘ lP) from rfl, this]
  by_cases hm : p ∈ G
  · rw [decide_eq_true hm, decide_eq_true (e.mpr hm)]
  · rw [decide_eq_false hm, decide_eq_false fun z => hm (e.mp z)]
theorem shp_encPs (G : List Pr) : ∀ x ∈ G.map encP, shp 1 x := fun x hx => by
  obtain ⟨p, _, rfl⟩ := List.mem_map.mp hx
  exact shp_nT (k := 0)
abbrev waitW (m : List EW) (i : Nat) : List PyData := (m.drop i).map fun e => encP e.1
theorem waitW_cons {m : List EW} {i : Nat} {e : EW} (h : m[i]? = some e) : waitW m i = encP e.1 :: waitW m (i + 1) := by
  have hi := (List.getElem?_eq_some_iff.mp h).1
  have he := (List.getElem?_eq_some_iff.mp h).2
  show (m.drop i).map _ = _
  rw [← List.getElem_cons_drop hi, he, List.map_cons]
theorem waitW_snoc {m : List EW} {i : Nat} {q : EW} (h : i ≤ m.length) : waitW (m ++ [q]) i = waitW m i ++ [encP q.1] := by
  show ((m ++ [q]).drop i).map _ = _
  rw [List.drop_append_of_le_length h, List.map_append]
  rfl
theorem runW_plen (R : Rule) (s : Pr) : ∀ i, ∀ e ∈ runW R s i, e.2.length ≤ i + 1
  | 0, e, he => by have := lenW0 e he; omega
  | i + 1, e, he => by
    have ih := runW_plen R s i
    have he : e ∈ bStep (scW R) (bRun (scW R) (startW R s) i) i := he
    unfold bStep at he
    cases q : (bRun (scW R) (startW R s) i)[i]? with
    | none => rw [q] at he; exact Nat.le_succ_of_le (ih e he)
    | some p0 =>
      rw [q] at he
      have hp := ih p0 (List.mem_of_getElem? q)
      refine bFold_inv (P := fun m : List EW => ∀ e ∈ m, e.2.length ≤ i + 2) _ _ (fun m a ha hm e he => ?_) (fun e he => Nat.le_succ_of_le (ih e he)) e he
      unfold bPut at he
      split at he
      · exact hm e he
      · rcases List.mem_append.mp he with he | he
        · exact hm e he
        · rw [List.mem_singleton] at he
          subst he
          have := lenWs p0 e ha
          omega
theorem finW_plen {R : Rule} (s : Pr) : ∀ e ∈ finW R s, e.2.length ≤ 66 := fun e he => by
  rw [finW_eq] at he
  exact runW_plen R s 65 e he
/-! ### the walks' own words -/
def pairsA (R : Rule) (p : Pr) (a : Nat) : List (Pr × Pr) := ((List.range R.s).filter fun b => decide (outE R p.1 a = outE R p.2 b)).map fun b => (nxW R p (a, b), (a, b))
theorem pairsN_eq (R : Rule) (p : Pr) : pairsN R p = (List.range R.s).flatMap (pairsA R p) := rfl
abbrev encT4 (t : Pr × Pr) : PyData := .tuple [nI t.1.1, nI t.1.2, nI t.2.1, nI t.2.2]
theorem pairsA_len (R : Rule) (p : Pr) (a : Nat) : (pairsA R p a).length ≤ R.s := by
  unfold pairsA
  rw [List.length_map]
  have := List.length_filter_le (fun b => decide (outE R p.1 a = outE R p.2 b)) (List.range R.s)
  rwa [List.length_range] at this
theorem pairsA_flat (R : Rule) (p : Pr) (l : List Nat) : (l.flatMap (pairsA R p)).length ≤ l.length * R.s := by
  rw [List.length_flatMap]
  exact sum_le (fun a => (pairsA R p a).length) R.s l fun a _ => pairsA_len R p a
def wayR (R : Rule) (s : Pr) (G : List Pr) : Rs := match wayN' R s G with
  | some w => .f (w.map encP)
  | none => .k .none
theorem find_at {α : Type} {p : α → Bool} : ∀ {l : List α} {i : Nat} {x : α}, l[i]? = some x → p x = true → (∀ j y, j < i → l[j]? = some y → p y = false) → l.find? p = some x
  | [], _, _, h, _, _ => by simp at h
  | a :: l, 0, x, h, hp, _ => by
    simp at h
    subst h
    rw [List.find?_cons_of_pos hp]
  | a :: l, i + 1, x, h, hp, hn => by
    have h0 := hn 0 a (by omega) rfl
    rw [List.find?_cons_of_neg (by rw [h0]; exact Bool.false_ne_true)]
    exact find_at (by simpa using h) hp fun j y hj hy => hn (j + 1) y (by omega) (by simpa using hy)
def optD : Option (List Pr) → PyData
  | none => .none
  | some w => .list (w.map encP)
def shorterO (w : List Pr) (b : Option (List Pr)) : Bool := match b with
  | none => true
  | some v => decide (w.length < v.length)
def shorterB (a b : Option (List Pr)) : Bool := match a with
  | none => false
  | some w => shorterO w b
def bestStep {α : Type} (f : α → Option (List Pr)) (b : Option (α × List Pr)) (a : α) : Option (α × List Pr) := match f a with
  | none => b
  | some w => if shorterO w (b.map (·.2)) = true then some (a, w) else b
def bestF {α : Type} (f : α → Option (List Pr)) (L : List α) : Option (α × List Pr) := L.foldl (bestStep f) none
theorem bestF_snoc {α : Type} (f : α → Option (List Pr)) (L : List α) (a : α) : bestF f (L ++ [a]) = bestStep f (bestF f L) a := by simp [bestF]
def bestOk {α : Type} (f : α → Option (List Pr)) (L : List α) : Option (α × List Pr) → Prop
  | none => ∀ a ∈ L, f a = none
  | some (a, w) => a ∈ L ∧ f a = some w ∧ ∀ a' ∈ L, ∀ w', f a' = some w' → w.length ≤ w'.length
theorem bestF_ok {α : Type} (f : α → Option (List Pr)) (L : List α) : bestOk f L (bestF f L) := by
  induction L using snocInd with
  | h0 => intro a ha; cases ha
  | h1 L a ih =>
    rw [bestF_snoc]
    unfold bestStep
    cases q : f a with
    | none =>
      cases hb : bestF f L with
      | none =>
        rw [hb] at ih
        intro x hx
        rcases List.mem_append.mp hx with hx | hx
        · exact ih x hx
        · rw [List.mem_singleton] at hx; rw [hx]; exact q
      | some b =>
        rw [hb] at ih
        obtain ⟨b1, b2⟩ := b
        obtain ⟨h1, h2, h3⟩ := ih
        refine ⟨List.mem_append_left _ h1, h2, fun x hx w' hw' => ?_⟩
        rcases List.mem_append.mp hx with hx | hx
        · exact h3 x hx w' hw'
        · rw [List.mem_singleton] at hx; rw [hx, q] at hw'; cases hw'
    | some w =>
      cases hb : bestF f L with
      | none =>
        rw [hb] at ih
        refine ⟨by simp, q, fun x hx w' hw' => ?_⟩
        rcases List.mem_append.mp hx with hx | hx
        · rw [ih x hx] at hw'; cases hw'
        · rw [List.mem_singleton] at hx; rw [hx, q] at hw'; cases hw'; exact Nat.le_refl _
      | some b =>
        rw [hb] at ih
        obtain ⟨b1, b2⟩ := b
        obtain ⟨h1, h2, h3⟩ := ih
        show bestOk f _ (if decide (w.length < b2.length) = true then some (a, w) else some (b1, b2))
        by_cases hlt : w.length < b2.length
        · rw [if_pos (decide_eq_true hlt)]
          refine ⟨by simp, q, fun x hx w' hw' => ?_⟩
          rcases List.mem_append.mp hx with hx | hx
          · have := h3 x hx w' hw'; omega
          · rw [List.mem_singleton] at hx; rw [hx, q] at hw'; cases hw'; exact Nat.le_refl _
        · rw [if_neg (by rw [decide_eq_false hlt]; exact Bool.false_ne_true)]
          refine ⟨List.mem_append_left _ h1, h2, fun x hx w' hw' => ?_⟩
          rcases List.mem_append.mp hx with hx | hx
          · exact h3 x hx w' hw'
          · rw [List.mem_singleton] at hx; rw [hx, q] at hw'; cases hw'; omega
def diagP (R : Rule) : List Pr := (List.range (manyE R)).map fun e => (e, e)
theorem mem_diagP {R : Rule} {p : Pr} : p ∈ diagP R ↔ p.1 = p.2 ∧ p.1 < manyE R := by
  unfold diagP
  rw [List.mem_map]
  constructor
  · rintro ⟨e, he, rfl⟩; exact ⟨rfl, List.mem_range.mp he⟩
  · rintro ⟨h1, h2⟩; exact ⟨p.1, List.mem_range.mpr h2, Prod.ext rfl h1⟩
def twB (R : Rule) : Option (Nat × List Pr) := bestF (fun e => wayN' R (e, e) (diagP R)) (List.range (manyE R))
def rgB (R : Rule) : Option (Pr × List Pr) := bestF (fun p : Pr => if p.1 ≤ p.2 then wayN' R p [p] else none) (allP R)
def forBody : Stmt → List Stmt
  | .For _ _ b _ _ => b
  | _ => []
def elseOf : Stmt → List Stmt
  | .If _ _ b _ => b
  | _ => []
theorem eqvAll_self (l : List Nat) : PyData.eqvAll (l.map nI) (l.map nI) = true := by
  rw [eqvAll_map (fun _ _ => eqv_nI)]
  simp

/-! ### the law's own search, level by level -/
abbrev ED := Pr × Nat
def scD (R : Rule) (e : ED) : List ED := (pairsN R e.1).map fun t => (t.1, e.2 + 1)
def runD (R : Rule) (zs : List Pr) (i : Nat) : List ED := bRun (scD R) (zs.map fun p => (p, 1)) i
theorem runD_ent {R : Rule} {zs : List Pr} (i : Nat) : ∀ e ∈ runD R zs i, ∃ b ∈ zs, ∃ v, validW R b v ∧ endW R b v = e.1 ∧ v.length + 1 = e.2 := by
  refine bRun_all (P := fun e : ED => ∃ b ∈ zs, ∃ v, validW R b v ∧ endW R b v = e.1 ∧ v.length + 1 = e.2) (fun e he => ?_) (fun e he q hq => ?_) i
  · obtain ⟨p, hp, rfl⟩ := List.mem_map.mp he
    exact ⟨p, hp, [], trivial, rfl, rfl⟩
  · obtain ⟨t, ht, rfl⟩ := List.mem_map.mp hq
    obtain ⟨q, c⟩ := t
    obtain ⟨h1, h2⟩ := mem_pairsN.mp ht
    obtain ⟨b, hb, v, v1, v2, v3⟩ := he
    refine ⟨b, hb, v ++ [c], ?_, ?_, ?_⟩
    · rw [validW_append, v2]; exact ⟨v1, h1, trivial⟩
    · rw [endW_append, v2, h2]; rfl
    · rw [List.length_append, List.length_singleton, v3]
theorem runD_nodup {R : Rule} {zs : List Pr} (hz : zs.Nodup) (i : Nat) : (bKeys (runD R zs i)).Nodup := by
  refine bRun_nodup ?_ i
  unfold bKeys
  rw [List.map_map]
  have : ((fun x : ED => x.1) ∘ fun p : Pr => (p, 1)) = id := rfl
  rw [this, List.map_id]
  exact hz
theorem runD_len {R : Rule} (h : R.ok) {zs : List Pr} (hz : zs.Nodup) (ho : ∀ p ∈ zs, okP R p) (i : Nat) : (runD R zs i).length ≤ 64 := by
  have := pairs_few (R := R) (runD_nodup (R := R) hz i) fun q hq => by
    obtain ⟨e, he, rfl⟩ := List.mem_map.mp hq
    obtain ⟨b, hb, v, _, v2, _⟩ := runD_ent i e he
    rw [← v2]
    exact endW_ok h (ho b hb) v
  unfold bKeys at this
  rw [List.length_map] at this
  exact Nat.le_trans this (sq64 h)
theorem runD_end {R : Rule} (h : R.ok) {zs : List Pr} (hz : zs.Nodup) (ho : ∀ p ∈ zs, okP R p) : bEnd (scD R) (zs.map fun p => (p, 1)) 64 := ⟨fun i => runD_len h hz ho i⟩
@[irreducible] def finD (R : Rule) (zs : List Pr) : List ED := runD R zs 65
theorem finD_eq (R : Rule) (zs : List Pr) : finD R zs = bRun (scD R) (zs.map fun p => (p, 1)) (64 + 1) := by unfold finD; rfl
theorem lenD0 {zs : List Pr} : ∀ e ∈ zs.map fun p : Pr => (p, 1), id e.2 = 1 := fun e he => by
  obtain ⟨p, _, rfl⟩ := List.mem_map.mp he
  rfl
theorem lenDs {R : Rule} : ∀ e : ED, ∀ q ∈ scD R e, id q.2 = id e.2 + 1 := fun e q hq => by
  obtain ⟨t, _, rfl⟩ := List.mem_map.mp hq
  rfl
theorem finD_all {R : Rule} (h : R.ok) {zs : List Pr} (hz : zs.Nodup) (ho : ∀ p ∈ zs, okP R p) {b : Pr} (hb : b ∈ zs) (v : List Pr) (hv : validW R b v) : ∃ e ∈ finD R zs, e.1 = endW R b v ∧ e.2 ≤ v.length + 1 := by
  induction v using snocInd with
  | h0 =>
    refine ⟨(b, 1), ?_, rfl, Nat.le_refl _⟩
    rw [finD_eq]
    exact ((runD_end h hz ho).pre 0).subset (List.mem_map.mpr ⟨b, hb, rfl⟩)
  | h1 v c ih =>
    rw [validW_append] at hv
    obtain ⟨hv1, hv2⟩ := hv
    obtain ⟨e, he, h1, h2⟩ := ih hv1
    rw [finD_eq] at he
    obtain ⟨e2, he2, h3, h4⟩ := (runD_end h hz ho).next (len := id) lenD0 lenDs he (q := (nxW R e.1 c, e.2 + 1)) (List.mem_map.mpr ⟨(nxW R e.1 c, c), mem_pairsN.mpr ⟨by rw [h1]; exact hv2.1, rfl⟩, rfl⟩)
    have h4 : e2.2 ≤ e.2 + 1 := h4
    refine ⟨e2, by rw [finD_eq]; exact he2, ?_, by rw [List.length_append, List.length_singleton]; omega⟩
    rw [h3, endW_append, h1]
    rfl
/-- how many cells lead there -/
def StepSpec (R : Rule) (bs G : List Pr) (n : Nat) : Prop :=
  (n = 0 ∧ ∀ p ∈ bs, ∀ v, validW R p v → endW R p v ∉ G) ∨
  (∃ p ∈ bs, ∃ v, validW R p v ∧ endW R p v ∈ G ∧ v.length + 1 = n ∧ ∀ p' ∈ bs, ∀ v', validW R p' v' → endW R p' v' ∈ G → v.length ≤ v'.length)
theorem StepSpec.unique {R : Rule} {bs G : List Pr} {n m : Nat} (h : StepSpec R bs G n) (g : StepSpec R bs G m) : n = m := by
  rcases h with ⟨h1, h2⟩ | ⟨p, hp, v, h1, h2, h3, h4⟩ <;> rcases g with ⟨g1, g2⟩ | ⟨q, hq, u, g1, g2, g3, g4⟩
  · omega
  · exact absurd g2 (h2 q hq u g1)
  · exact absurd h2 (g2 p hp v h1)
  · have := h4 q hq u g1 g2
    have := g4 p hp v h1 h2
    omega
theorem StepSpec.congr {R : Rule} {bs cs G : List Pr} {n : Nat} (h : StepSpec R bs G n) (e : ∀ p, p ∈ bs ↔ p ∈ cs) : StepSpec R cs G n := by
  rcases h with ⟨h1, h2⟩ | ⟨p, hp, v, h1, h2, h3, h4⟩
  · exact .inl ⟨h1, fun p hp => h2 p ((e p).mpr hp)⟩
  · exact .inr ⟨p, (e p).mp hp, v, h1, h2, h3, fun p' hp' => h4 p' ((e p').mpr hp')⟩
/-- the first of the goals that is met tells it -/
theorem finD_spec {R : Rule} (h : R.ok) {zs G : List Pr} (hz : zs.Nodup) (ho : ∀ p ∈ zs, okP R p) : StepSpec R zs G (match (finD R zs).find? fun e => decide (e.1 ∈ G) with | none => 0 | some e => e.2) := by
  cases q : (finD R zs).find? fun e => decide (e.1 ∈ G) with
  | none =>
    refine .inl ⟨rfl, fun p hp v hv hg => ?_⟩
    obtain ⟨e, he, h1, _⟩ := finD_all h hz ho hp v hv
    rw [List.find?_eq_none] at q
    exact q e he (decide_eq_true (by rw [h1]; exact hg))
  | some e =>
    have hg0 := List.find?_some q
    have hg : e.1 ∈ G := of_decide_eq_true hg0
    have hm := List.mem_of_find?_eq_some q
    rw [finD_eq] at hm
    obtain ⟨b, hb, v, v1, v2, v3⟩ := runD_ent 65 e hm
    refine .inr ⟨b, hb, v, v1, by rw [v2]; exact hg, v3, fun p' hp' v' hv' hg' => ?_⟩
    obtain ⟨e', he', h1, h2⟩ := finD_all h hz ho hp' v' hv'
    have hord := (bRun_ord (sc := scD R) (m0 := zs.map fun p => (p, 1)) (len := id) lenD0 lenDs 65).1
    have hord : bOrd id (finD R zs) := by rw [finD_eq]; exact hord
    rw [List.find?_eq_some_iff_append] at q
    obtain ⟨_, as, bs, hab, hno⟩ := q
    have hge : e'.1 ∈ G := by rw [h1]; exact hg'
    rw [hab] at he' hord
    have hle : e.2 ≤ e'.2 := by
      rcases List.mem_append.mp he' with z | z
      · have := hno e' z
        rw [decide_eq_true hge] at this
        cases this
      · rcases List.mem_cons.mp z with rfl | z
        · exact Nat.le_refl _
        · unfold bOrd at hord
          rw [List.pairwise_append] at hord
          exact (List.pairwise_cons.mp hord.2.1).1 e' z
    omega
/-- the pairs behind a pair and two unlike cells -/
def partedN (R : Rule) (p : Pr) : List Pr := ((pairsN R p).filter fun t => decide (t.2.1 ≠ t.2.2)).map (·.1)
theorem mem_partedN {R : Rule} {p q : Pr} : q ∈ partedN R p ↔ ∃ c, okW R p c ∧ c.1 ≠ c.2 ∧ q = nxW R p c := by
  unfold partedN
  rw [List.mem_map]
  constructor
  · rintro ⟨t, ht, rfl⟩
    rw [List.mem_filter, decide_eq_true_eq] at ht
    obtain ⟨q, c⟩ := t
    obtain ⟨h1, h2⟩ := mem_pairsN.mp ht.1
    exact ⟨c, h1, ht.2, h2⟩
  · rintro ⟨c, h1, h2, rfl⟩
    refine ⟨(nxW R p c, c), ?_, rfl⟩
    rw [List.mem_filter, decide_eq_true_eq]
    exact ⟨mem_pairsN.mpr ⟨h1, rfl⟩, h2⟩
theorem partedN_len {R : Rule} (h : R.ok) (p : Pr) : (partedN R p).length ≤ R.s * (R.s - 1) := by
  unfold partedN pairsN
  rw [List.length_map, List.filter_flatMap, List.length_flatMap]
  have := sum_le (fun a => ((((List.range R.s).filter fun b => decide (outE R p.1 a = outE R p.2 b)).map fun b => (nxW R p (a, b), (a, b))).filter fun t => decide (t.2.1 ≠ t.2.2)).length) (R.s - 1) (List.range R.s) fun a ha => by
    rw [List.filter_map, List.length_map, List.filter_filter]
    have hn : (a :: (List.range R.s).filter fun b => (((fun t : Pr × Pr => decide (t.2.1 ≠ t.2.2)) ∘ fun b => (nxW R p (a, b), (a, b))) b) && decide (outE R p.1 a = outE R p.2 b)).Nodup := by
      rw [List.nodup_cons]
      refine ⟨fun hm => ?_, List.nodup_range.filter _⟩
      rw [List.mem_filter] at hm
      simp at hm
    have := nodup_len (M := R.s) hn fun o ho => by
      rcases List.mem_cons.mp ho with rfl | ho
      · exact List.mem_range.mp ha
      · exact List.mem_range.mp (List.mem_filter.mp ho).1
    rw [List.length_cons] at this
    exact Nat.le_sub_of_add_le this
  rwa [List.length_range] at this
theorem spec_some {R : Rule} {S G : List Pr} {s : Pr} {w : List Pr} (hs : s ∈ S) (hw : WayW R s G w) (hmin : ∀ s' ∈ S, ∀ w', WayW R s' G w' → w.length ≤ w'.length) : StepSpec R (S.flatMap (partedN R)) G w.length := by
  obtain ⟨v, u, g⟩ := hw
  cases w with
  | nil => exact u.elim
  | cons c w =>
    refine .inr ⟨nxW R s c, List.mem_flatMap.mpr ⟨s, hs, mem_partedN.mpr ⟨c, v.1, u, rfl⟩⟩, w, v.2, g, rfl, fun p' hp' v' hv' hg' => ?_⟩
    obtain ⟨s', hs', hp'⟩ := List.mem_flatMap.mp hp'
    obtain ⟨c', h1, h2, rfl⟩ := mem_partedN.mp hp'
    have := hmin s' hs' (c' :: v') ⟨⟨h1, hv'⟩, h2, hg'⟩
    rw [List.length_cons, List.length_cons] at this
    omega
theorem spec_none {R : Rule} {S G : List Pr} (hn : ∀ s' ∈ S, ∀ w', ¬ WayW R s' G w') : StepSpec R (S.flatMap (partedN R)) G 0 := by
  refine .inl ⟨rfl, fun p hp v hv hg => ?_⟩
  obtain ⟨s', hs', hp⟩ := List.mem_flatMap.mp hp
  obtain ⟨c', h1, h2, rfl⟩ := mem_partedN.mp hp
  exact hn s' hs' (c' :: v) ⟨⟨h1, hv⟩, h2, hg⟩
/-! ### twins -/
theorem twB_some {R : Rule} (h : R.ok) {e : Nat} {w : List Pr} (hw : twB R = some (e, w)) : e < manyE R ∧ WayW R (e, e) (diagP R) w ∧ ∀ e' < manyE R, ∀ w', WayW R (e', e') (diagP R) w' → w.length ≤ w'.length := by
  have bo : bestOk (fun e => wayN' R (e, e) (diagP R)) (List.range (manyE R)) (twB R) := bestF_ok _ _
  rw [hw] at bo
  obtain ⟨h1, h2, h3⟩ := bo
  have h2 : wayN' R (e, e) (diagP R) = some w := h2
  refine ⟨List.mem_range.mp h1, (wayN_some h h2).1, fun e' he' w' hw' => ?_⟩
  cases q : wayN' R (e', e') (diagP R) with
  | none => exact absurd hw' (wayN_none h q w')
  | some u =>
    have := h3 e' (List.mem_range.mpr he') u q
    have := (wayN_some h q).2 w' hw'
    omega
theorem twB_none {R : Rule} (h : R.ok) (hw : twB R = none) : ∀ e < manyE R, ∀ w, ¬ WayW R (e, e) (diagP R) w := by
  have bo : bestOk (fun e => wayN' R (e, e) (diagP R)) (List.range (manyE R)) (twB R) := bestF_ok _ _
  rw [hw] at bo
  intro e he w
  exact wayN_none h (bo e (List.mem_range.mpr he)) w
theorem zip_maps : ∀ (a b : List Nat), a.length = b.length → (a.zip b).map (·.1) = a ∧ (a.zip b).map (·.2) = b
  | [], [], _ => ⟨rfl, rfl⟩
  | [], _ :: _, h => by simp at h
  | _ :: _, [], h => by simp at h
  | x :: a, y :: b, h => by
    obtain ⟨h1, h2⟩ := zip_maps a b (by simpa using h)
    rw [List.zip_cons_cons, List.map_cons, List.map_cons, h1, h2]
    exact ⟨rfl, rfl⟩
theorem way_zip {R : Rule} {p : Pr} {a b : List Nat} (hl : a.length = b.length) (ha : Wd R a) (hb : Wd R b) (ho : outsE R p.1 a = outsE R p.2 b) : validW R p (a.zip b) ∧ endW R p (a.zip b) = (runE R p.1 a, runE R p.2 b) := by
  obtain ⟨h1, h2⟩ := zip_maps a b hl
  refine ⟨(validW_outs R _ p).mpr ⟨fun c hc => ?_, by rw [h1, h2]; exact ho⟩, by rw [endW_runs, h1, h2]⟩
  obtain ⟨x, y⟩ := c
  have := List.of_mem_zip hc
  exact ⟨ha x this.1, hb y this.2⟩
theorem zip_same {a b : List Nat} (hl : a.length = b.length) (h : ∀ c ∈ a.zip b, c.1 = c.2) : a = b := by
  obtain ⟨h1, h2⟩ := zip_maps a b hl
  exact h1.symm.trans ((List.map_congr_left h).trans h2)
/-- a valid way with two unlike cells has an end from its first unlike ones on -/
theorem way_cut {R : Rule} : ∀ (w : List Pr) (p : Pr), validW R p w → ¬ (∀ c ∈ w, c.1 = c.2) → ∃ u v, w = u ++ v ∧ (∀ c ∈ u, c.1 = c.2) ∧ validW R (endW R p u) v ∧ unl v
  | [], p, _, hn => absurd (fun c hc => by cases hc) hn
  | c :: w, p, hv, hn => by
    by_cases hc : c.1 = c.2
    · obtain ⟨u, v, h1, h2, h3, h4⟩ := way_cut w (nxW R p c) hv.2 fun hall => hn fun x hx => by
        rcases List.mem_cons.mp hx with rfl | hx
        · exact hc
        · exact hall x hx
      refine ⟨c :: u, v, by rw [h1]; rfl, fun x hx => ?_, h3, h4⟩
      rcases List.mem_cons.mp hx with rfl | hx
      · exact hc
      · exact h2 x hx
    · exact ⟨[], c :: w, rfl, (fun x hx => by cases hx), hv, hc⟩
theorem diag_end {R : Rule} (u : List Pr) (h : ∀ c ∈ u, c.1 = c.2) (e : Nat) : ∃ f, endW R (e, e) u = (f, f) := by
  rw [endW_runs]
  refine ⟨runE R e (u.map (·.1)), ?_⟩
  rw [List.map_congr_left h]
/-- no twins are told just where there are none -/
theorem notw_iff {R : Rule} (h : R.ok) : twB R = none ↔ NoTw R := by
  constructor
  · intro hn e cs cs' he hc hc' ho hr
    have hl : cs.length = cs'.length := by rw [← outsE_len R cs e, ho, outsE_len]
    apply Classical.byContradiction
    intro hne
    obtain ⟨v1, v2⟩ := way_zip (p := (e, e)) hl hc hc' ho
    obtain ⟨u, v, h1, h2, h3, h4⟩ := way_cut _ _ v1 fun hall => hne (zip_same hl hall)
    obtain ⟨f, hf⟩ := diag_end (R := R) u h2 e
    rw [h1, endW_append, hf] at v2
    rw [hf] at h3
    have hfl : f < manyE R := by
      have := endW_ok h (p := (e, e)) ⟨he, he⟩ u
      rw [hf] at this
      exact this.1
    refine twB_none h hn f hfl v ⟨h3, h4, ?_⟩
    rw [v2, mem_diagP]
    exact ⟨hr, runE_lt h he cs⟩
  · intro ht
    cases q : twB R with
    | none => rfl
    | some b =>
      obtain ⟨e, w⟩ := b
      obtain ⟨he, ⟨v, u, g⟩, _⟩ := twB_some h q
      obtain ⟨w1, w2⟩ := (validW_outs R w (e, e)).mp v
      rw [endW_runs, mem_diagP] at g
      have := ht e (w.map (·.1)) (w.map (·.2)) he (fun x hx => by obtain ⟨c, hc, rfl⟩ := List.mem_map.mp hx; exact (w1 c hc).1) (fun x hx => by obtain ⟨c, hc, rfl⟩ := List.mem_map.mp hx; exact (w1 c hc).2) w2 g.1
      cases w with
      | nil => exact u.elim
      | cons c w =>
        rw [List.map_cons, List.map_cons] at this
        exact absurd (List.cons.inj this).1 u
/-- .. just where no piece is missing -/
theorem twins_missing {R : Rule} (h : R.ok) : twB R = none ↔ lookM (finM R) [] = none := by
  rw [notw_iff h, missing_none h]
  exact ⟨fun ht u hu => notw_nomiss h ht u hu, fun hm => nomiss_notw h fun u hu => (cN_pos h u).mpr (hm u hu)⟩
/-- what is told are twins -/
structure TwOk (R : Rule) (x y : List Nat) : Prop where
  wx : Wd R x
  wy : Wd R y
  len : x.length = y.length
  ne : x ≠ y
  few : R.w - 1 ≤ x.length
  pre : x.take (R.w - 1) = y.take (R.w - 1)
  suf : x.drop (x.length - (R.w - 1)) = y.drop (y.length - (R.w - 1))
  on : on R x = on R y
theorem tw_ok {R : Rule} (h : R.ok) {e : Nat} {w : List Pr} (he : e < manyE R) (hw : WayW R (e, e) (diagP R) w) : TwOk R (cells R.s (R.w - 1) e ++ w.map (·.1)) (cells R.s (R.w - 1) e ++ w.map (·.2)) := by
  obtain ⟨v, u, g⟩ := hw
  obtain ⟨w1, w2⟩ := (validW_outs R w (e, e)).mp v
  rw [endW_runs, mem_diagP] at g
  have d1 : Wd R (w.map (·.1)) := fun x hx => by obtain ⟨c, hc, rfl⟩ := List.mem_map.mp hx; exact (w1 c hc).1
  have d2 : Wd R (w.map (·.2)) := fun x hx => by obtain ⟨c, hc, rfl⟩ := List.mem_map.mp hx; exact (w1 c hc).2
  have cw := cells_wd h e
  have cl := cells_len R.s (R.w - 1) e
  have r1 := run_num h (w.map (·.1)) (cells R.s (R.w - 1) e) cl cw d1
  have r2 := run_num h (w.map (·.2)) (cells R.s (R.w - 1) e) cl cw d2
  rw [cells_num' h he] at r1 r2
  have hd : ∀ (z : List Nat) (hz : Wd R z), ((cells R.s (R.w - 1) e ++ z).drop z.length).length = R.w - 1 := fun z _ => by rw [List.length_drop, List.length_append, cl]; omega
  have key : ∀ (z : List Nat), (cells R.s (R.w - 1) e ++ z).length - (R.w - 1) = z.length := fun z => by rw [List.length_append, cl]; omega
  refine ⟨cw.app d1, cw.app d2, by simp, fun z => ?_, by rw [List.length_append, cl]; omega, ?_, ?_, ?_⟩
  · have z := List.append_cancel_left z
    cases w with
    | nil => exact u
    | cons c w =>
      rw [List.map_cons, List.map_cons] at z
      exact u (List.cons.inj z).1
  · rw [List.take_append_of_le_length (by omega), List.take_append_of_le_length (by omega)]
  · rw [key, key]
    have e1 := cells_num ((cells R.s (R.w - 1) e ++ w.map (·.1)).drop (w.map (·.1)).length) fun x hx => (cw.app d1) x (List.mem_of_mem_drop hx)
    have e2 := cells_num ((cells R.s (R.w - 1) e ++ w.map (·.2)).drop (w.map (·.2)).length) fun x hx => (cw.app d2) x (List.mem_of_mem_drop hx)
    rw [hd _ d1] at e1
    rw [hd _ d2] at e2
    rw [← e1, ← e2, ← r1, ← r2]
    have g1 : runE R e (w.map (·.1)) = runE R e (w.map (·.2)) := g.1
    rw [g1]
  · rw [on_outs h _ _ cl cw d1, on_outs h _ _ cl cw d2, cells_num' h he]
    exact w2

/-! ### rings -/
theorem on_app_drop (R : Rule) (a x : List Nat) : (on R (a ++ x)).drop a.length = on R x := by
  apply List.ext_getElem?
  intro i
  rw [List.getElem?_drop]
  by_cases hi : i < x.length + 1 - R.w
  · unfold on
    rw [List.getElem?_map, List.getElem?_map, List.getElem?_range hi, List.getElem?_range (by rw [List.length_append]; omega)]
    show some (R.t.getD (num R.s (((a ++ x).drop (a.length + i)).take R.w)) 0) = _
    rw [← List.drop_drop, List.drop_left]
    rfl
  · rw [List.getElem?_eq_none, List.getElem?_eq_none]
    · rw [on_len]; omega
    · rw [on_len, List.length_append]; omega
theorem outsE_take (R : Rule) (m : Nat) (l : List Nat) (e : Nat) : outsE R e (l.take m) = (outsE R e l).take m := by
  by_cases hm : m ≤ l.length
  · have := outsE_append R (l.take m) (l.drop m) e
    rw [List.take_append_drop] at this
    rw [this, List.take_left' (by rw [outsE_len, List.length_take, Nat.min_eq_left hm])]
  · rw [List.take_of_length_le (by omega), List.take_of_length_le (by rw [outsE_len]; omega)]
theorem outsE_rep {R : Rule} {e : Nat} {x : List Nat} (hr : runE R e x = e) : ∀ k, outsE R e (List.replicate k x).flatten = (List.replicate k (outsE R e x)).flatten
  | 0 => rfl
  | k + 1 => by rw [List.replicate_succ, List.replicate_succ, List.flatten_cons, List.flatten_cons, outsE_append, hr, outsE_rep hr k]
/-- what comes of a ring, told by a way round -/
theorem onRing_outs {R : Rule} (h : R.ok) {e : Nat} {x : List Nat} (he : e < manyE R) (hx : Wd R x) (hne : x ≠ []) (hr : runE R e x = e) : onRing R x = ((List.replicate (1 + (R.w - 1)) (outsE R e x)).flatten.take (x.length + (R.w - 1))).drop (R.w - 1) := by
  have hp : 0 < x.length := List.length_pos_iff.mpr hne
  have cl := cells_len R.s (R.w - 1) e
  have hz : Wd R (around x (R.w - 1)) := around_lt hx hp
  have e1 := on_outs h (around x (R.w - 1)) _ cl (cells_wd h e) hz
  rw [cells_num' h he] at e1
  have e2 := on_app_drop R (cells R.s (R.w - 1) e) (around x (R.w - 1))
  rw [cl, e1] at e2
  unfold onRing
  rw [← e2, around_rep (k := R.w - 1) x (R.w - 1) (Nat.le_mul_of_pos_right _ hp), outsE_take, outsE_rep hr]
/-- what is told are two rings -/
structure RgOk (R : Rule) (x y : List Nat) : Prop where
  wx : Wd R x
  wy : Wd R y
  len : x.length = y.length
  ne : x ≠ y
  nx : x ≠ []
  ny : y ≠ []
  on : onRing R x = onRing R y
theorem rg_ok {R : Rule} (h : R.ok) {p : Pr} {w : List Pr} (hp : okP R p) (hw : WayW R p [p] w) : RgOk R (w.map (·.1)) (w.map (·.2)) := by
  obtain ⟨v, u, g⟩ := hw
  obtain ⟨w1, w2⟩ := (validW_outs R w p).mp v
  rw [endW_runs, List.mem_singleton] at g
  have g1 : runE R p.1 (w.map (·.1)) = p.1 := congrArg Prod.fst g
  have g2 : runE R p.2 (w.map (·.2)) = p.2 := congrArg Prod.snd g
  have d1 : Wd R (w.map (·.1)) := fun x hx => by obtain ⟨c, hc, rfl⟩ := List.mem_map.mp hx; exact (w1 c hc).1
  have d2 : Wd R (w.map (·.2)) := fun x hx => by obtain ⟨c, hc, rfl⟩ := List.mem_map.mp hx; exact (w1 c hc).2
  cases w with
  | nil => exact u.elim
  | cons c w =>
    have n1 : ((c :: w).map fun c : Pr => c.1) ≠ [] := by simp
    have n2 : ((c :: w).map fun c : Pr => c.2) ≠ [] := by simp
    refine ⟨d1, d2, by simp, fun z => ?_, n1, n2, ?_⟩
    · rw [List.map_cons, List.map_cons] at z
      exact u (List.cons.inj z).1
    · rw [onRing_outs h hp.1 d1 n1 g1, onRing_outs h hp.2 d2 n2 g2, w2, List.length_map, List.length_map]
/-! ### either way round -/
def swP (p : Pr) : Pr := (p.2, p.1)
theorem nxW_sw (R : Rule) (p c : Pr) : nxW R (swP p) (swP c) = swP (nxW R p c) := rfl
theorem endW_sw (R : Rule) : ∀ (w : List Pr) (p : Pr), endW R (swP p) (w.map swP) = swP (endW R p w)
  | [], _ => rfl
  | c :: w, p => by
    show endW R (nxW R (swP p) (swP c)) (w.map swP) = _
    rw [nxW_sw, endW_sw R w]
    rfl
theorem validW_sw (R : Rule) : ∀ (w : List Pr) (p : Pr), validW R p w → validW R (swP p) (w.map swP)
  | [], _, _ => trivial
  | c :: w, p, h => ⟨⟨h.1.2.1, h.1.1, h.1.2.2.symm⟩, validW_sw R w _ h.2⟩
theorem way_sw {R : Rule} {p : Pr} {w : List Pr} (h : WayW R p [p] w) : WayW R (swP p) [swP p] (w.map swP) := by
  obtain ⟨v, u, g⟩ := h
  refine ⟨validW_sw R w p v, ?_, ?_⟩
  · cases w with
    | nil => exact u
    | cons c w => exact fun z => u z.symm
  · rw [List.mem_singleton] at g ⊢
    rw [endW_sw, g]
/-- how many cells lead round from a pair; 0 where none do -/
def stN (R : Rule) (p : Pr) : Nat := match wayN' R p [p] with
  | none => 0
  | some w => w.length
theorem stN_spec {R : Rule} (h : R.ok) (p : Pr) : StepSpec R (partedN R p) [p] (stN R p) := by
  have e : partedN R p = [p].flatMap (partedN R) := by simp
  rw [e]
  unfold stN
  cases q : wayN' R p [p] with
  | none => exact spec_none fun s' hs' w' hw' => by rw [List.mem_singleton] at hs'; subst hs'; exact wayN_none h q w' hw'
  | some w => exact spec_some (List.mem_singleton.mpr rfl) (wayN_some h q).1 fun s' hs' w' hw' => by rw [List.mem_singleton] at hs'; subst hs'; exact (wayN_some h q).2 w' hw'
theorem stN_le (R : Rule) (p : Pr) : stN R p ≤ 66 := by
  unfold stN
  cases q : wayN' R p [p] with
  | none => exact Nat.zero_le _
  | some w =>
    unfold wayN' at q
    cases q2 : (finW R p).find? fun x => decide (x.1 ∈ [p]) with
    | none => rw [q2] at q; cases q
    | some x =>
      rw [q2] at q
      cases q
      exact finW_plen p x (List.mem_of_find?_eq_some q2)
theorem stN_way {R : Rule} (h : R.ok) {p : Pr} (hs : 0 < stN R p) : ∃ w, WayW R p [p] w ∧ w.length = stN R p := by
  unfold stN at hs ⊢
  cases q : wayN' R p [p] with
  | none => rw [q] at hs; exact absurd hs (by simp)
  | some w => exact ⟨w, (wayN_some h q).1, rfl⟩
theorem way_stN {R : Rule} (h : R.ok) {p : Pr} {w : List Pr} (hw : WayW R p [p] w) : 0 < stN R p ∧ stN R p ≤ w.length := by
  unfold stN
  cases q : wayN' R p [p] with
  | none => exact absurd hw (wayN_none h q w)
  | some u =>
    refine ⟨?_, (wayN_some h q).2 w hw⟩
    have := (wayN_some h q).1.u
    cases u with
    | nil => exact this.elim
    | cons c u => exact Nat.succ_pos _
/-- the law's own counts -/
def lowP (R : Rule) : List Pr := (List.range (manyE R)).flatMap fun a => (List.range (a + 1)).map fun b => (a, b)
theorem mem_lowP {R : Rule} {p : Pr} : p ∈ lowP R ↔ p.1 < manyE R ∧ p.2 ≤ p.1 := by
  unfold lowP
  rw [List.mem_flatMap]
  constructor
  · rintro ⟨a, ha, hp⟩
    obtain ⟨b, hb, rfl⟩ := List.mem_map.mp hp
    exact ⟨List.mem_range.mp ha, by have := List.mem_range.mp hb; show b ≤ a; omega⟩
  · rintro ⟨h1, h2⟩
    exact ⟨p.1, List.mem_range.mpr h1, List.mem_map.mpr ⟨p.2, List.mem_range.mpr (by omega), rfl⟩⟩
def cntR (R : Rule) (L : List Pr) : List Nat := (L.map (stN R)).filter fun n => decide (0 < n)
theorem cntR_snoc (R : Rule) (L : List Pr) (p : Pr) : cntR R (L ++ [p]) = cntR R L ++ (if 0 < stN R p then [stN R p] else []) := by
  unfold cntR
  rw [List.map_append, List.filter_append, List.map_cons, List.map_nil]
  congr 1
  by_cases h : 0 < stN R p
  · rw [if_pos h, List.filter_cons_of_pos (by simpa using h), List.filter_nil]
  · rw [if_neg h, List.filter_cons_of_neg (by simpa using h), List.filter_nil]
theorem rgB_none {R : Rule} (h : R.ok) (hw : rgB R = none) : ∀ p, okP R p → ∀ w, ¬ WayW R p [p] w := by
  have bo : bestOk _ _ (rgB R) := bestF_ok (fun p : Pr => if p.1 ≤ p.2 then wayN' R p [p] else none) (allP R)
  rw [hw] at bo
  have low : ∀ p, okP R p → p.1 ≤ p.2 → ∀ w, ¬ WayW R p [p] w := fun p hp hl => by
    have : (if p.1 ≤ p.2 then wayN' R p [p] else none) = none := bo p ((mem_allP h).mpr hp)
    rw [if_pos hl] at this
    exact wayN_none h this
  intro p hp w hw'
  by_cases hl : p.1 ≤ p.2
  · exact low p hp hl w hw'
  · exact low (swP p) ⟨hp.2, hp.1⟩ (by show p.2 ≤ p.1; omega) _ (way_sw hw')
theorem rgB_some {R : Rule} (h : R.ok) {p : Pr} {w : List Pr} (hw : rgB R = some (p, w)) : okP R p ∧ p.1 ≤ p.2 ∧ WayW R p [p] w ∧ ∀ p', okP R p' → ∀ w', WayW R p' [p'] w' → w.length ≤ w'.length := by
  have bo : bestOk _ _ (rgB R) := bestF_ok (fun p : Pr => if p.1 ≤ p.2 then wayN' R p [p] else none) (allP R)
  rw [hw] at bo
  obtain ⟨h1, h2, h3⟩ := bo
  have h2 : (if p.1 ≤ p.2 then wayN' R p [p] else none) = some w := h2
  have hl : p.1 ≤ p.2 := by
    by_cases hl : p.1 ≤ p.2
    · exact hl
    · rw [if_neg hl] at h2; cases h2
  rw [if_pos hl] at h2
  have low : ∀ p', okP R p' → p'.1 ≤ p'.2 → ∀ w', WayW R p' [p'] w' → w.length ≤ w'.length := fun p' hp' hl' w' hw' => by
    cases q : wayN' R p' [p'] with
    | none => exact absurd hw' (wayN_none h q w')
    | some u =>
      have := h3 p' ((mem_allP h).mpr hp') u (by show (if p'.1 ≤ p'.2 then wayN' R p' [p'] else none) = some u; rw [if_pos hl', q])
      have := (wayN_some h q).2 w' hw'
      omega
  refine ⟨(mem_allP h).mp h1, hl, (wayN_some h h2).1, fun p' hp' w' hw' => ?_⟩
  by_cases hl' : p'.1 ≤ p'.2
  · exact low p' hp' hl' w' hw'
  · have := low (swP p') ⟨hp'.2, hp'.1⟩ (by show p'.2 ≤ p'.1; omega) _ (way_sw hw')
    rwa [List.length_map] at this
theorem low_ok {R : Rule} {p : Pr} (hp : p ∈ lowP R) : okP R p := by
  obtain ⟨h1, h2⟩ := mem_lowP.mp hp
  exact ⟨h1, by omega⟩
theorem cnt_none {R : Rule} (h : R.ok) (hw : rgB R = none) : cntR R (lowP R) = [] := by
  unfold cntR
  rw [List.filter_eq_nil_iff]
  intro n hn
  obtain ⟨p, hp, rfl⟩ := List.mem_map.mp hn
  intro z
  obtain ⟨w, hw', _⟩ := stN_way h (of_decide_eq_true z)
  exact rgB_none h hw p (low_ok hp) w hw'
theorem cnt_some {R : Rule} (h : R.ok) {p : Pr} {w : List Pr} (hw : rgB R = some (p, w)) : w.length ∈ cntR R (lowP R) ∧ ∀ n ∈ cntR R (lowP R), w.length ≤ n := by
  obtain ⟨h1, h2, h3, h4⟩ := rgB_some h hw
  have hge : ∀ q, okP R q → 0 < stN R q → w.length ≤ stN R q := fun q hq hs => by
    obtain ⟨u, hu, hl⟩ := stN_way h hs
    rw [← hl]
    exact h4 q hq u hu
  constructor
  · have hs : swP p ∈ lowP R := mem_lowP.mpr ⟨h1.2, h2⟩
    obtain ⟨s1, s2⟩ := way_stN h (way_sw h3)
    rw [List.length_map] at s2
    have e : w.length = stN R (swP p) := Nat.le_antisymm (hge _ (low_ok hs) s1) s2
    unfold cntR
    rw [List.mem_filter, e]
    exact ⟨List.mem_map.mpr ⟨_, hs, rfl⟩, decide_eq_true s1⟩
  · intro n hn
    unfold cntR at hn
    rw [List.mem_filter] at hn
    obtain ⟨hn, hz⟩ := hn
    obtain ⟨q, hq, rfl⟩ := List.mem_map.mp hn
    exact hge q (low_ok hq) (of_decide_eq_true hz)

/-! ### rules turned back -/
def partsA (R : Rule) (p : Pr) : List (Pr × Pr) := ((pairsN R p).filter fun t => decide (t.2.1 < t.2.2)).map fun t => (p, t.1)
def partsN (R : Rule) : List (Pr × Pr) := (allP R).flatMap (partsA R)
theorem mem_partsN {R : Rule} (h : R.ok) {x : Pr × Pr} : x ∈ partsN R ↔ okP R x.1 ∧ ∃ c, okW R x.1 c ∧ c.1 < c.2 ∧ x.2 = nxW R x.1 c := by
  unfold partsN partsA
  rw [List.mem_flatMap]
  constructor
  · rintro ⟨p, hp, hx⟩
    obtain ⟨t, ht, rfl⟩ := List.mem_map.mp hx
    rw [List.mem_filter, decide_eq_true_eq] at ht
    obtain ⟨q, c⟩ := t
    obtain ⟨h1, h2⟩ := mem_pairsN.mp ht.1
    exact ⟨(mem_allP h).mp hp, c, h1, ht.2, h2⟩
  · rintro ⟨h1, c, h2, h3, h4⟩
    refine ⟨x.1, (mem_allP h).mpr h1, List.mem_map.mpr ⟨(x.2, c), ?_, rfl⟩⟩
    rw [List.mem_filter, decide_eq_true_eq]
    exact ⟨mem_pairsN.mpr ⟨h2, h4⟩, h3⟩
def addU (L : List Pr) (q : Pr) : List Pr := if q ∈ L then L else L ++ [q]
def addA (R : Rule) (acc : List Pr) (p : Pr) : List Pr := (pairsN R p).foldl (fun acc t => addU acc t.1) acc
def ledN (R : Rule) (L : List Pr) : List Pr := L.foldl (addA R) []
def backN (R : Rule) (L : List Pr) : List Pr := (allP R).filter fun p => (pairsN R p).any fun t => decide (t.1 ∈ L)
theorem mem_addU {L : List Pr} {q x : Pr} : x ∈ addU L q ↔ x ∈ L ∨ x = q := by
  unfold addU
  split
  · exact ⟨.inl, fun h => h.elim id fun e => by subst e; assumption⟩
  · rw [List.mem_append, List.mem_singleton]
theorem addU_nodup {L : List Pr} {q : Pr} (h : L.Nodup) : (addU L q).Nodup := by
  unfold addU
  split
  · exact h
  · rename_i hq
    rw [List.nodup_append]
    exact ⟨h, by simp, fun a ha b hb => by rw [List.mem_singleton] at hb; subst hb; exact fun z => hq (z ▸ ha)⟩
theorem addF_mem {x : Pr} : ∀ (T : List (Pr × Pr)) (acc : List Pr), x ∈ T.foldl (fun acc t => addU acc t.1) acc ↔ x ∈ acc ∨ ∃ t ∈ T, t.1 = x
  | [], acc => by simp
  | t :: T, acc => by
    rw [List.foldl_cons, addF_mem T, mem_addU]
    constructor
    · rintro ((h | rfl) | ⟨t', ht, e⟩)
      · exact .inl h
      · exact .inr ⟨t, List.mem_cons_self, rfl⟩
      · exact .inr ⟨t', List.mem_cons_of_mem _ ht, e⟩
    · rintro (h | ⟨t', ht, e⟩)
      · exact .inl (.inl h)
      · rcases List.mem_cons.mp ht with rfl | ht
        · exact .inl (.inr e.symm)
        · exact .inr ⟨t', ht, e⟩
theorem addF_nodup : ∀ (T : List (Pr × Pr)) (acc : List Pr), acc.Nodup → (T.foldl (fun acc t => addU acc t.1) acc).Nodup
  | [], acc, h => h
  | t :: T, acc, h => addF_nodup T _ (addU_nodup h)
theorem addA_mem {R : Rule} {x p : Pr} {acc : List Pr} : x ∈ addA R acc p ↔ x ∈ acc ∨ ∃ c, okW R p c ∧ x = nxW R p c := by
  unfold addA
  rw [addF_mem]
  constructor
  · rintro (h | ⟨⟨q, c⟩, ht, rfl⟩)
    · exact .inl h
    · exact .inr ⟨c, (mem_pairsN.mp ht).1, (mem_pairsN.mp ht).2⟩
  · rintro (h | ⟨c, h1, h2⟩)
    · exact .inl h
    · exact .inr ⟨(x, c), mem_pairsN.mpr ⟨h1, h2⟩, rfl⟩
theorem ledF_mem {R : Rule} {x : Pr} : ∀ (L acc : List Pr), x ∈ L.foldl (addA R) acc ↔ x ∈ acc ∨ ∃ p ∈ L, ∃ c, okW R p c ∧ x = nxW R p c
  | [], acc => by simp
  | p :: L, acc => by
    rw [List.foldl_cons, ledF_mem L, addA_mem]
    constructor
    · rintro ((h | h) | ⟨p', hp, h⟩)
      · exact .inl h
      · exact .inr ⟨p, List.mem_cons_self, h⟩
      · exact .inr ⟨p', List.mem_cons_of_mem _ hp, h⟩
    · rintro (h | ⟨p', hp, h⟩)
      · exact .inl (.inl h)
      · rcases List.mem_cons.mp hp with rfl | hp
        · exact .inl (.inr h)
        · exact .inr ⟨p', hp, h⟩
theorem ledF_nodup {R : Rule} : ∀ (L acc : List Pr), acc.Nodup → (L.foldl (addA R) acc).Nodup
  | [], acc, h => h
  | p :: L, acc, h => ledF_nodup L _ (addF_nodup _ _ h)
theorem mem_ledN {R : Rule} {L : List Pr} {x : Pr} : x ∈ ledN R L ↔ ∃ p ∈ L, ∃ c, okW R p c ∧ x = nxW R p c := by
  unfold ledN
  rw [ledF_mem]
  simp
theorem mem_backN {R : Rule} (h : R.ok) {L : List Pr} {x : Pr} : x ∈ backN R L ↔ okP R x ∧ ∃ c, okW R x c ∧ nxW R x c ∈ L := by
  unfold backN
  rw [List.mem_filter, mem_allP h, List.any_eq_true]
  constructor
  · rintro ⟨h1, ⟨q, c⟩, ht, hl⟩
    obtain ⟨g1, g2⟩ := mem_pairsN.mp ht
    refine ⟨h1, c, g1, ?_⟩
    rw [← g2]
    exact of_decide_eq_true hl
  · rintro ⟨h1, c, h2, h3⟩
    exact ⟨h1, (nxW R x c, c), mem_pairsN.mpr ⟨h2, rfl⟩, decide_eq_true h3⟩
def aheadN (R : Rule) : Nat → List Pr
  | 0 => allP R
  | k + 1 => ledN R (aheadN R k)
def behindN (R : Rule) : Nat → List Pr
  | 0 => allP R
  | k + 1 => backN R (behindN R k)
theorem aheadN_ok {R : Rule} (h : R.ok) : ∀ k, ∀ p ∈ aheadN R k, okP R p
  | 0, p, hp => (mem_allP h).mp hp
  | k + 1, p, hp => by
    obtain ⟨q, _, c, _, rfl⟩ := mem_ledN.mp hp
    exact nxW_ok h _ _
theorem behindN_ok {R : Rule} (h : R.ok) : ∀ k, ∀ p ∈ behindN R k, okP R p
  | 0, p, hp => (mem_allP h).mp hp
  | k + 1, p, hp => ((mem_backN h).mp hp).1
theorem aheadN_nodup {R : Rule} (h : R.ok) : ∀ k, (aheadN R k).Nodup
  | 0 => allP_nodup h
  | k + 1 => ledF_nodup _ _ List.nodup_nil
theorem behindN_nodup {R : Rule} (h : R.ok) : ∀ k, (behindN R k).Nodup
  | 0 => allP_nodup h
  | k + 1 => (allP_nodup h).filter _
/-- ahead: where a way of so many cells ends -/
theorem mem_ahead {R : Rule} (h : R.ok) : ∀ k x, x ∈ aheadN R k ↔ ∃ p w, okP R p ∧ validW R p w ∧ w.length = k ∧ endW R p w = x
  | 0, x => by
    show x ∈ allP R ↔ _
    rw [mem_allP h]
    constructor
    · intro hx; exact ⟨x, [], hx, trivial, rfl, rfl⟩
    · rintro ⟨p, w, hp, _, hl, rfl⟩
      rw [List.length_eq_zero_iff.mp hl]
      exact hp
  | k + 1, x => by
    show x ∈ ledN R (aheadN R k) ↔ _
    rw [mem_ledN]
    constructor
    · rintro ⟨q, hq, c, hc, rfl⟩
      obtain ⟨p, w, hp, hv, hl, rfl⟩ := (mem_ahead h k q).mp hq
      refine ⟨p, w ++ [c], hp, ?_, by rw [List.length_append, List.length_singleton, hl], ?_⟩
      · rw [validW_append]; exact ⟨hv, hc, trivial⟩
      · rw [endW_append]; rfl
    · rintro ⟨p, w, hp, hv, hl, rfl⟩
      rcases List.eq_nil_or_concat w with rfl | ⟨w, c, rfl⟩
      · cases hl
      · rw [List.concat_eq_append] at hv hl ⊢
        rw [validW_append] at hv
        rw [List.length_append, List.length_singleton] at hl
        refine ⟨endW R p w, (mem_ahead h k _).mpr ⟨p, w, hp, hv.1, by omega, rfl⟩, c, hv.2.1, ?_⟩
        rw [endW_append]
        rfl
/-- behind: where a way of so many cells begins -/
theorem mem_behind {R : Rule} (h : R.ok) : ∀ k x, x ∈ behindN R k ↔ okP R x ∧ ∃ w, validW R x w ∧ w.length = k
  | 0, x => by
    show x ∈ allP R ↔ _
    rw [mem_allP h]
    exact ⟨fun hx => ⟨hx, [], trivial, rfl⟩, fun hx => hx.1⟩
  | k + 1, x => by
    show x ∈ backN R (behindN R k) ↔ _
    rw [mem_backN h]
    constructor
    · rintro ⟨hx, c, hc, hn⟩
      obtain ⟨_, w, hv, hl⟩ := (mem_behind h k _).mp hn
      exact ⟨hx, c :: w, ⟨hc, hv⟩, by rw [List.length_cons, hl]⟩
    · rintro ⟨hx, w, hv, hl⟩
      cases w with
      | nil => cases hl
      | cons c w =>
        rw [List.length_cons] at hl
        exact ⟨hx, c, hv.1, (mem_behind h k _).mpr ⟨nxW_ok h _ _, w, hv.2, by omega⟩⟩
def toldN (R : Rule) (b a : Nat) : Bool := (partsN R).all fun x => !(decide (x.1 ∈ aheadN R b) && decide (x.2 ∈ behindN R a))
theorem toldN_false {R : Rule} {b a : Nat} : toldN R b a = false ↔ ∃ x ∈ partsN R, x.1 ∈ aheadN R b ∧ x.2 ∈ behindN R a := by
  unfold toldN
  rw [List.all_eq_false]
  constructor
  · rintro ⟨x, hx, hn⟩
    refine ⟨x, hx, ?_⟩
    simpa using hn
  · rintro ⟨x, hx, h1, h2⟩
    exact ⟨x, hx, by simp [h1, h2]⟩
/-- the first that is told -/
def FirstB (R : Rule) (b a : Nat) : Prop := toldN R b a = true ∧ ∀ b' a', (b' + a' < b + a ∨ (b' + a' = b + a ∧ b' < b)) → toldN R b' a' = false
theorem FirstB.unique {R : Rule} {b a b' a' : Nat} (h : FirstB R b a) (g : FirstB R b' a') : b = b' ∧ a = a' := by
  have key : ∀ {b a b' a' : Nat}, FirstB R b a → FirstB R b' a' → ¬ (b' + a' < b + a ∨ (b' + a' = b + a ∧ b' < b)) := fun {b a b' a'} h g z => by
    have := h.2 _ _ z
    rw [g.1] at this
    cases this
  have k1 := key h g
  have k2 := key g h
  omega
theorem first_ex {R : Rule} {b a : Nat} (ht : toldN R b a = true) : ∃ b' a', FirstB R b' a' ∧ b' + a' ≤ b + a := by
  have key : ∀ n m b a, b + a = n → b = m → toldN R b a = true → ∃ b' a', FirstB R b' a' ∧ b' + a' ≤ n := by
    intro n
    induction n using Nat.strongRecOn with
    | ind n ihn =>
      intro m
      induction m using Nat.strongRecOn with
      | ind m ihm =>
        intro b a hn hm ht
        by_cases hf : ∃ b' a', (b' + a' < b + a ∨ (b' + a' = b + a ∧ b' < b)) ∧ toldN R b' a' = true
        · obtain ⟨b', a', hlt, ht'⟩ := hf
          rcases hlt with hlt | ⟨he, hlt⟩
          · obtain ⟨x, y, h1, h2⟩ := ihn (b' + a') (by omega) b' b' a' rfl rfl ht'
            exact ⟨x, y, h1, by omega⟩
          · exact ihm b' (by omega) b' a' (by omega) rfl ht'
        · refine ⟨b, a, ⟨ht, fun b' a' hlt => ?_⟩, by omega⟩
          cases q : toldN R b' a' with
          | false => rfl
          | true => exact absurd ⟨b', a', hlt, q⟩ hf
  obtain ⟨b', a', h1, h2⟩ := key (b + a) b b a rfl rfl ht
  exact ⟨b', a', h1, h2⟩
/-! ### where two rings are, nothing is told -/
theorem rep_valid {R : Rule} {p : Pr} {w : List Pr} (hv : validW R p w) (he : endW R p w = p) : ∀ k, validW R p (List.replicate k w).flatten ∧ endW R p (List.replicate k w).flatten = p
  | 0 => ⟨trivial, rfl⟩
  | k + 1 => by
    rw [List.replicate_succ, List.flatten_cons, validW_append, endW_append, he]
    exact ⟨⟨hv, (rep_valid hv he k).1⟩, (rep_valid hv he k).2⟩
theorem valid_take {R : Rule} {p : Pr} {w : List Pr} (k : Nat) (h : validW R p w) : validW R p (w.take k) := by
  have := (validW_append R (w.take k) (w.drop k) p).mp (by rw [List.take_append_drop]; exact h)
  exact this.1
theorem ahead_self {R : Rule} (h : R.ok) {p : Pr} (hp : okP R p) {w : List Pr} (hv : validW R p w) (he : endW R p w = p) (hw : w ≠ []) (k : Nat) : p ∈ aheadN R k := by
  obtain ⟨v1, v2⟩ := rep_valid hv he k
  have hl : k ≤ (List.replicate k w).flatten.length := by
    have : (List.replicate k w).flatten.length = k * w.length := by simp
    rw [this]
    exact Nat.le_mul_of_pos_right _ (List.length_pos_iff.mpr hw)
  generalize (List.replicate k w).flatten = L at v1 v2 hl
  have e : L = L.take (L.length - k) ++ L.drop (L.length - k) := (List.take_append_drop _ _).symm
  rw [e, validW_append] at v1
  rw [e, endW_append] at v2
  exact (mem_ahead h k p).mpr ⟨_, _, endW_ok h hp _, v1.2, by rw [List.length_drop]; omega, v2⟩
theorem behind_self {R : Rule} (h : R.ok) {p : Pr} (hp : okP R p) {w : List Pr} (hv : validW R p w) (he : endW R p w = p) (hw : w ≠ []) (k : Nat) : p ∈ behindN R k := by
  obtain ⟨v1, v2⟩ := rep_valid hv he k
  have hl : k ≤ (List.replicate k w).flatten.length := by
    have : (List.replicate k w).flatten.length = k * w.length := by simp
    rw [this]
    exact Nat.le_mul_of_pos_right _ (List.length_pos_iff.mpr hw)
  exact (mem_behind h k p).mpr ⟨hp, _, valid_take k v1, by rw [List.length_take]; omega⟩
/-- two unlike cells from one of the pairs ahead to one behind, the first the lesser or not -/
theorem ahead_sw {R : Rule} (h : R.ok) {k : Nat} {p : Pr} (hp : p ∈ aheadN R k) : swP p ∈ aheadN R k := by
  obtain ⟨q, w, hq, hv, hl, rfl⟩ := (mem_ahead h k p).mp hp
  exact (mem_ahead h k _).mpr ⟨swP q, w.map swP, ⟨hq.2, hq.1⟩, validW_sw R w q hv, by rw [List.length_map, hl], endW_sw R w q⟩
theorem behind_sw {R : Rule} (h : R.ok) {k : Nat} {p : Pr} (hp : p ∈ behindN R k) : swP p ∈ behindN R k := by
  obtain ⟨hq, w, hv, hl⟩ := (mem_behind h k p).mp hp
  exact (mem_behind h k _).mpr ⟨⟨hq.2, hq.1⟩, w.map swP, validW_sw R w p hv, by rw [List.length_map, hl]⟩
def partsAt (R : Rule) (b a : Nat) : Prop := ∃ p c, p ∈ aheadN R b ∧ okW R p c ∧ c.1 ≠ c.2 ∧ nxW R p c ∈ behindN R a
theorem told_iff {R : Rule} (h : R.ok) (b a : Nat) : toldN R b a = false ↔ partsAt R b a := by
  rw [toldN_false]
  constructor
  · rintro ⟨⟨p, q⟩, hx, h1, h2⟩
    obtain ⟨_, c, hc, hlt, hq⟩ := (mem_partsN h).mp hx
    have hq : q = nxW R p c := hq
    subst hq
    exact ⟨p, c, h1, hc, by omega, h2⟩
  · rintro ⟨p, c, h1, hc, hne, h2⟩
    by_cases hlt : c.1 < c.2
    · exact ⟨(p, nxW R p c), (mem_partsN h).mpr ⟨aheadN_ok h b p h1, c, hc, hlt, rfl⟩, h1, h2⟩
    · refine ⟨(swP p, nxW R (swP p) (swP c)), (mem_partsN h).mpr ⟨aheadN_ok h b _ (ahead_sw h h1), swP c, ⟨hc.2.1, hc.1, hc.2.2.symm⟩, by show c.2 < c.1; omega, rfl⟩, ahead_sw h h1, ?_⟩
      show nxW R (swP p) (swP c) ∈ _
      rw [nxW_sw]
      exact behind_sw h h2
theorem rings_parts {R : Rule} (h : R.ok) {p : Pr} (hp : okP R p) {w : List Pr} (hw : WayW R p [p] w) (b a : Nat) : toldN R b a = false := by
  obtain ⟨hv, hu, hg⟩ := hw
  rw [List.mem_singleton] at hg
  cases w with
  | nil => exact hu.elim
  | cons c w =>
    refine (told_iff h b a).mpr ⟨p, c, ahead_self h hp hv hg (by simp) b, hv.1, hu, ?_⟩
    -- from behind the first cell: round again, and the cell again
    have he2 : endW R (nxW R p c) (w ++ [c]) = nxW R p c := by
      rw [endW_append]
      show nxW R (endW R (nxW R p c) w) c = _
      have : endW R (nxW R p c) w = p := hg
      rw [this]
    have hv2 : validW R (nxW R p c) (w ++ [c]) := by
      rw [validW_append]
      have : endW R (nxW R p c) w = p := hg
      rw [this]
      exact ⟨hv.2, hv.1, trivial⟩
    exact behind_self h (nxW_ok h _ _) hv2 he2 (by simp) a
/-! ### where none are, something is told -/
def NoRg (R : Rule) : Prop := ∀ p, okP R p → ∀ w, ¬ WayW R p [p] w
theorem norg_like {R : Rule} (h : R.ok) (hn : NoRg R) {p : Pr} (hp : okP R p) {w : List Pr} (hv : validW R p w) (he : endW R p w = p) : ∀ c ∈ w, c.1 = c.2 := by
  apply Classical.byContradiction
  intro hne
  obtain ⟨u, v, rfl, _, h3, h4⟩ := way_cut w p hv hne
  rw [validW_append] at hv
  rw [endW_append] at he
  refine hn (endW R p u) (endW_ok h hp u) (v ++ u) ⟨?_, ?_, ?_⟩
  · rw [validW_append, he]; exact ⟨h3, hv.1⟩
  · cases v with
    | nil => exact h4.elim
    | cons c v => exact h4
  · rw [List.mem_singleton, endW_append, he]
theorem way_meets {R : Rule} (h : R.ok) {p : Pr} (hp : okP R p) {w : List Pr} (hl : w.length = 64) : ∃ i j, i < j ∧ j ≤ 64 ∧ endW R p (w.take i) = endW R p (w.take j) := by
  apply Classical.byContradiction
  intro hne
  have hn : ((List.range 65).map fun i => endW R p (w.take i)).Nodup := by
    rw [List.nodup_iff_pairwise_ne, List.pairwise_map]
    refine List.pairwise_lt_range.imp_of_mem fun {a b} _ hb hab z => hne ⟨a, b, hab, ?_, z⟩
    have := List.mem_range.mp hb
    omega
  have := pairs_few (R := R) hn fun q hq => by
    obtain ⟨i, _, rfl⟩ := List.mem_map.mp hq
    exact endW_ok h hp _
  rw [List.length_map, List.length_range] at this
  have := sq64 h
  omega
theorem run_same {R : Rule} (h : R.ok) {e f : Nat} (he : e < manyE R) (hf : f < manyE R) {cs : List Nat} (hc : Wd R cs) (hl : R.w - 1 ≤ cs.length) : runE R e cs = runE R f cs := by
  have r1 := run_num h cs (cells R.s (R.w - 1) e) (cells_len _ _ _) (cells_wd h e) hc
  have r2 := run_num h cs (cells R.s (R.w - 1) f) (cells_len _ _ _) (cells_wd h f) hc
  rw [cells_num' h he] at r1
  rw [cells_num' h hf] at r2
  have dr : ∀ z, (cells R.s (R.w - 1) z ++ cs).drop cs.length = cs.drop (cs.length - (R.w - 1)) := fun z => by
    have h0 : (cells R.s (R.w - 1) z).drop cs.length = [] := List.drop_of_length_le (by rw [cells_len]; exact hl)
    rw [List.drop_append, h0, cells_len, List.nil_append]
  rw [r1, r2, dr, dr]
theorem like_diag {R : Rule} (h : R.ok) {q : Pr} (hq : okP R q) {w : List Pr} (hv : validW R q w) (he : endW R q w = q) (hw : w ≠ []) (hlike : ∀ c ∈ w, c.1 = c.2) : q.1 = q.2 := by
  obtain ⟨v1, v2⟩ := rep_valid hv he (R.w - 1)
  have hl : R.w - 1 ≤ (List.replicate (R.w - 1) w).flatten.length := by
    have : (List.replicate (R.w - 1) w).flatten.length = (R.w - 1) * w.length := by simp
    rw [this]
    exact Nat.le_mul_of_pos_right _ (List.length_pos_iff.mpr hw)
  have hk : ∀ c ∈ (List.replicate (R.w - 1) w).flatten, c.1 = c.2 := fun c hc => by
    obtain ⟨l, hl, hc⟩ := List.mem_flatten.mp hc
    rw [List.eq_of_mem_replicate hl] at hc
    exact hlike c hc
  generalize (List.replicate (R.w - 1) w).flatten = L at v1 v2 hl hk
  obtain ⟨w1, _⟩ := (validW_outs R L q).mp v1
  rw [endW_runs] at v2
  have e1 : L.map (fun c : Pr => c.1) = L.map fun c : Pr => c.2 := List.map_congr_left hk
  have a1 : runE R q.1 (L.map fun c : Pr => c.1) = q.1 := congrArg Prod.fst v2
  have a2 : runE R q.2 (L.map fun c : Pr => c.2) = q.2 := congrArg Prod.snd v2
  rw [← a1, ← a2, ← e1]
  exact run_same h hq.1 hq.2 (fun x hx => by obtain ⟨c, hc, rfl⟩ := List.mem_map.mp hx; exact (w1 c hc).1) (by rw [List.length_map]; exact hl)
/-- on each long way lies a pair of an end and itself -/
theorem norg_diag {R : Rule} (h : R.ok) (hn : NoRg R) {p : Pr} (hp : okP R p) {w : List Pr} (hv : validW R p w) (hl : w.length = 64) : ∃ i e, i ≤ 64 ∧ e < manyE R ∧ endW R p (w.take i) = (e, e) := by
  obtain ⟨i, j, hij, hj, he⟩ := way_meets h hp hl
  have e1 : w.take j = w.take i ++ (w.drop i).take (j - i) := by
    have := List.take_add (l := w) (i := i) (j := j - i)
    rw [← this]
    congr 1
    omega
  have hvj := valid_take j hv
  rw [e1, validW_append] at hvj
  rw [e1, endW_append] at he
  have hq := endW_ok h hp (w.take i)
  have hne : (w.drop i).take (j - i) ≠ [] := fun z => by
    have := congrArg List.length z
    rw [List.length_take, List.length_drop, hl, List.length_nil] at this
    omega
  have hd := like_diag h hq hvj.2 he.symm hne (norg_like h hn hq hvj.2 he.symm)
  exact ⟨i, (endW R p (w.take i)).1, by omega, hq.1, Prod.ext rfl hd.symm⟩
theorem like_way {R : Rule} (e : Nat) : ∀ (cs : List Nat) , Wd R cs → validW R (e, e) (cs.map fun c => (c, c)) := fun cs hc => by
  rw [validW_outs]
  refine ⟨fun c hm => ?_, by rw [List.map_map, List.map_map]; rfl⟩
  obtain ⟨x, hx, rfl⟩ := List.mem_map.mp hm
  exact ⟨hc x hx, hc x hx⟩
theorem like_end {R : Rule} (e : Nat) (cs : List Nat) : endW R (e, e) (cs.map fun c => (c, c)) = (runE R e cs, runE R e cs) := by
  rw [endW_runs, List.map_map, List.map_map]
  show (runE R e (cs.map id), runE R e (cs.map id)) = _
  rw [List.map_id]
/-- no way from like ends to like ends has unlike cells -/
theorem norg_diag2 {R : Rule} (h : R.ok) (hn : NoRg R) {e f : Nat} (he : e < manyE R) (hf : f < manyE R) {w : List Pr} (hv : validW R (e, e) w) (hend : endW R (e, e) w = (f, f)) : ∀ c ∈ w, c.1 = c.2 := by
  have hv2 : validW R (e, e) (w ++ (cells R.s (R.w - 1) e).map fun c => (c, c)) := by
    rw [validW_append, hend]
    exact ⟨hv, like_way f _ (cells_wd h e)⟩
  have he2 : endW R (e, e) (w ++ (cells R.s (R.w - 1) e).map fun c => (c, c)) = (e, e) := by
    rw [endW_append, hend, like_end, run_cells h hf he]
  exact fun c hc => norg_like h hn ⟨he, he⟩ hv2 he2 c (List.mem_append_left _ hc)
theorem told64 {R : Rule} (h : R.ok) (hn : NoRg R) : toldN R 64 64 = true := by
  cases q : toldN R 64 64 with
  | true => rfl
  | false =>
    obtain ⟨p, c, h1, hc, hne, h2⟩ := (told_iff h 64 64).mp q
    obtain ⟨p0, w1, hp0, hv1, hl1, rfl⟩ := (mem_ahead h 64 p).mp h1
    obtain ⟨hq, w2, hv2, hl2⟩ := (mem_behind h 64 _).mp h2
    obtain ⟨i, e, hi, he, hde⟩ := norg_diag h hn hp0 hv1 hl1
    obtain ⟨j, f, hj, hf, hdf⟩ := norg_diag h hn hq hv2 hl2
    have e1 : w1 = w1.take i ++ w1.drop i := (List.take_append_drop _ _).symm
    have hv1' := hv1
    rw [e1, validW_append, hde] at hv1'
    have hp : endW R p0 w1 = endW R (e, e) (w1.drop i) := by
      conv => lhs; rw [e1, endW_append, hde]
    rw [hp] at hc hdf hv2
    have hall := norg_diag2 h hn he hf (w := w1.drop i ++ c :: w2.take j) (by
      rw [validW_append]
      exact ⟨hv1'.2, hc, valid_take j hv2⟩) (by
      rw [endW_append]
      exact hdf)
    exact absurd (hall c (by simp)) hne
theorem first_norg {R : Rule} (h : R.ok) (hn : NoRg R) : ∃ b a, FirstB R b a ∧ b + a ≤ 128 := first_ex (told64 h hn)

/-! ### sets of pairs as dicts -/
def trueL (L : List Pr) : List (List Nat × PyData) := L.map fun p => (lP p, .bool true)
abbrev setPD (L : List Pr) : PyData := .dict (dOfT (encQ (trueL L)))
abbrev encPP (x : Pr × Pr) : PyData := .tuple [encP x.1, encP x.2]
theorem keys_encQ (M : List (List Nat × PyData)) : ((encQ M).map fun q => PyData.tuple (q.1.map keyD)) = M.map fun q => nT q.1 := by
  unfold encQ
  rw [List.map_map]
  exact List.map_congr_left fun q _ => keyN_D q.1
theorem keys_steps (R : Rule) : ((encQ (stepsL R)).map fun q => PyData.tuple (q.1.map keyD)) = (allP R).map encP := by
  rw [keys_encQ]
  unfold stepsL
  rw [List.map_map]
  rfl
theorem keys_true (L : List Pr) : ((encQ (trueL L)).map fun q => PyData.tuple (q.1.map keyD)) = L.map encP := by
  rw [keys_encQ]
  unfold trueL
  rw [List.map_map]
  rfl
theorem trueL_keys (L : List Pr) (q : Pr) : lP q ∈ (trueL L).map (·.1) ↔ q ∈ L := by
  unfold trueL
  rw [List.map_map, List.mem_map]
  exact ⟨fun ⟨p, hp, e⟩ => lP_inj e ▸ hp, fun h => ⟨q, h, rfl⟩⟩
theorem trueL_nodup {L : List Pr} (h : L.Nodup) : ((trueL L).map (·.1)).Nodup := by
  unfold trueL
  rw [List.map_map, List.nodup_iff_pairwise_ne, List.pairwise_map]
  exact (List.nodup_iff_pairwise_ne.mp h).imp fun hne z => hne (lP_inj z)
theorem in_true (L : List Pr) (q : Pr) : (lookT (encQ (trueL L)) (keyN (lP q))).isSome = decide (q ∈ L) := by
  rw [lookT_some]
  exact decide_eq_decide.mpr (trueL_keys L q)
theorem put_true (L : List Pr) (q : Pr) : putD (encQ (trueL L)) (keyN (lP q)) (.bool true) = encQ (trueL (addU L q)) := by
  by_cases h : q ∈ L
  · have e : addU L q = L := by unfold addU; rw [if_pos h]
    rw [e]
    unfold putD
    have hany : ((encQ (trueL L)).any fun x => decide (x.1 = keyN (lP q))) = true := by
      rw [List.any_eq_true]
      exact ⟨(keyN (lP q), .bool true), List.mem_map.mpr ⟨(lP q, .bool true), List.mem_map.mpr ⟨q, h, rfl⟩, rfl⟩, by simp⟩
    rw [if_pos hany]
    conv => rhs; rw [← List.map_id (encQ (trueL L))]
    refine List.map_congr_left fun x hx => ?_
    obtain ⟨y, hy, rfl⟩ := List.mem_map.mp hx
    obtain ⟨p, _, rfl⟩ := List.mem_map.mp hy
    by_cases z : keyN (lP p) = keyN (lP q)
    · rw [if_pos z]; rfl
    · rw [if_neg z]; rfl
  · have e : addU L q = L ++ [q] := by unfold addU; rw [if_neg h]
    rw [e, putD_new fun z => h ((trueL_keys L q).mp z)]
    unfold trueL
    rw [List.map_append]
    rfl
def hashV : List Int := [-8458139203682520985, -1950498447580522560, 7204814214171964562, -4734289103435588629, 1773351652666409796, -3119722376306286570, -1010439003188656273, -5903513032161352639, -5164621852614943976, 8389048192121911274, -3550055125485641917, -1440771752368011620, -6333845781340707986, 173794974761290439, -4719279054211405927, -2609995681093775630, 4685526799349444076, 6794810172467074373, 1901736143494378007, 8409376899596376432, 3516302870623680066, -8422800446983873125, -6313517073866242828, 7240152970870612422, 2248468952609198383, 8756109708711196808, 3863035679738500442, 5972319052856130739, 1079245023883434373, 7586885779985432798, -4352217537622120393, 4803095124130366729, -6348126469135965181, 159514286966033244, -9131917124991031250, -2624276368889032825, 3883364387212965600, -1009709641759730766, 1099573731357899531, -3793500297614796835, -3054609118068388172, 3453031638033610253, -5838399773923454241, 669240982178544184, -4223833046794152182, 2283807709307846243, -7007623702649218251, -499982946547219826, -5491666964808633865, 8062003079928221385, -3877100237679331806, 2630540518422666619, -6660890893534397875, -153250137432399450, -5046324166405095816, 1461316589696902609, 4358481687155754187, -7580621630451799004, 5973048414285056246, 8082331787402686543, 3189257758429990177, -8749845559177563014, -2242204803075564589, 6913107858676922533]
theorem hash_vals : ∀ n, n < 64 → hashT (keyN [n / 8, n % 8]) = hashV.getD n 0 := by
  have h : ((List.range 64).all fun n => decide (hashT (keyN [n / 8, n % 8]) = hashV.getD n 0)) = true := by decide +kernel
  exact fun n hn => of_decide_eq_true (List.all_eq_true.mp h n (List.mem_range.mpr hn))
theorem hashV_nodup : hashV.Nodup := by decide +kernel
theorem hash_all : ((List.range 64).map fun n => hashT (keyN [n / 8, n % 8])).Nodup := by
  have e : ((List.range 64).map fun n => hashT (keyN [n / 8, n % 8])) = (List.range 64).map fun n => hashV.getD n 0 := List.map_congr_left fun n hn => hash_vals n (List.mem_range.mp hn)
  have e2 : ((List.range 64).map fun n => hashV.getD n 0) = hashV := by decide +kernel
  rw [e, e2]
  exact hashV_nodup
theorem hash_inj {p q : Pr} (hp : p.1 < 8 ∧ p.2 < 8) (hq : q.1 < 8 ∧ q.2 < 8) (h : hashT (keyN (lP p)) = hashT (keyN (lP q))) : p = q := by
  have hn := List.nodup_iff_pairwise_ne.mp hash_all
  rw [List.pairwise_map] at hn
  have e : ∀ x : Pr, x.1 < 8 ∧ x.2 < 8 → (x.1 * 8 + x.2) / 8 = x.1 ∧ (x.1 * 8 + x.2) % 8 = x.2 := fun x hx => by omega
  have key : ∀ {x y : Pr}, x.1 < 8 ∧ x.2 < 8 → y.1 < 8 ∧ y.2 < 8 → x.1 * 8 + x.2 < y.1 * 8 + y.2 → hashT (keyN (lP x)) ≠ hashT (keyN (lP y)) := fun {x y} hx hy hlt => by
    have := List.pairwise_iff_getElem.mp hn (x.1 * 8 + x.2) (y.1 * 8 + y.2) (by rw [List.length_range]; omega) (by rw [List.length_range]; omega) hlt
    rw [List.getElem_range, List.getElem_range, (e x hx).1, (e x hx).2, (e y hy).1, (e y hy).2] at this
    exact this
  rcases Nat.lt_trichotomy (p.1 * 8 + p.2) (q.1 * 8 + q.2) with z | z | z
  · exact absurd h (key hp hq z)
  · exact Prod.ext (by omega) (by omega)
  · exact absurd h.symm (key hq hp z)
theorem true_hash' {L : List Pr} (hf : List Key → Int) (hi : ∀ {p q : Pr}, p.1 < 8 ∧ p.2 < 8 → q.1 < 8 ∧ q.2 < 8 → hf (keyN (lP p)) = hf (keyN (lP q)) → p = q) (h : L.Nodup) (hb : ∀ p ∈ L, p.1 < 8 ∧ p.2 < 8) : ((encQ (trueL L)).map fun q => hf q.1).Nodup := by
  unfold encQ trueL
  rw [List.map_map, List.map_map, List.nodup_iff_pairwise_ne, List.pairwise_map]
  exact (List.nodup_iff_pairwise_ne.mp h).imp_of_mem fun {a b} ha hb' hne z => hne (hi (hb a ha) (hb b hb') z)
theorem true_hash {L : List Pr} (h : L.Nodup) (hb : ∀ p ∈ L, p.1 < 8 ∧ p.2 < 8) : ((encQ (trueL L)).map fun q => hashT q.1).Nodup := true_hash' hashT hash_inj h hb
theorem true_int (L : List Pr) : ∀ q ∈ encQ (trueL L), intKey q.1 = true := fun q hq => by
  obtain ⟨y, hy, rfl⟩ := List.mem_map.mp hq
  obtain ⟨p, _, rfl⟩ := List.mem_map.mp hy
  rfl
theorem okP8 {R : Rule} (h : R.ok) {p : Pr} (hp : okP R p) : p.1 < 8 ∧ p.2 < 8 := by
  have := manyE_le h
  obtain ⟨h1, h2⟩ := hp
  omega
theorem set_len {R : Rule} (h : R.ok) {L : List Pr} (hn : L.Nodup) (hb : ∀ p ∈ L, okP R p) : L.length ≤ 64 := Nat.le_trans (pairs_few hn hb) (sq64 h)
/-- the law's own steps -/
def lstepsL (R : Rule) : List (List Nat × PyData) := (allP R).map fun p => (lP p, .list (((pairsN R p).map (·.1)).map encP))
abbrev lstepsD (R : Rule) : PyData := .dict (dOfT (encQ (lstepsL R)))
theorem lstepsL_nodup {R : Rule} (h : R.ok) : ((lstepsL R).map (·.1)).Nodup := by
  unfold lstepsL
  rw [List.map_map, List.nodup_iff_pairwise_ne, List.pairwise_map]
  exact (List.nodup_iff_pairwise_ne.mp (allP_nodup h)).imp fun hne z => hne (lP_inj z)
theorem keys_lsteps (R : Rule) : ((encQ (lstepsL R)).map fun q => PyData.tuple (q.1.map keyD)) = (allP R).map encP := by
  rw [keys_encQ]
  unfold lstepsL
  rw [List.map_map]
  rfl
theorem look_lsteps {R : Rule} (h : R.ok) {p : Pr} (hp : okP R p) : lookT (encQ (lstepsL R)) (keyN (lP p)) = some (.list (((pairsN R p).map (·.1)).map encP)) :=
  lookT_mem (lstepsL_nodup h) (List.mem_map.mpr ⟨p, (mem_allP h).mpr hp, rfl⟩)
theorem parts_law {R : Rule} (h : R.ok) (b a : Nat) : ((aheadN R b).any fun p => (partedN R p).any fun q => decide (q ∈ behindN R a)) = !toldN R b a := by
  have key : ((aheadN R b).any fun p => (partedN R p).any fun q => decide (q ∈ behindN R a)) = true ↔ toldN R b a = false := by
    rw [told_iff h, List.any_eq_true]
    constructor
    · rintro ⟨p, hp, hq⟩
      rw [List.any_eq_true] at hq
      obtain ⟨q, hq, hb⟩ := hq
      obtain ⟨c, h1, h2, rfl⟩ := mem_partedN.mp hq
      exact ⟨p, c, hp, h1, h2, of_decide_eq_true hb⟩
    · rintro ⟨p, c, h1, h2, h3, h4⟩
      refine ⟨p, h1, ?_⟩
      rw [List.any_eq_true]
      exact ⟨nxW R p c, mem_partedN.mpr ⟨c, h2, h3, rfl⟩, decide_eq_true h4⟩
  cases q : toldN R b a with
  | true =>
    cases z : ((aheadN R b).any fun p => (partedN R p).any fun q => decide (q ∈ behindN R a)) with
    | false => rfl
    | true => rw [key.mp z] at q; cases q
  | false => rw [key.mpr q]; rfl

/-! ### what a told piece tells -/
theorem take_mid {α : Type} (l : List α) (b : Nat) (hb : b < l.length) : l = l.take b ++ l[b] :: l.drop (b + 1) := by
  rw [List.getElem_cons_drop, List.take_append_drop]
theorem told_agree {R : Rule} (h : R.ok) {b a : Nat} (ht : toldN R b a = true) {x y : List Nat} (wx : Wd R x) (wy : Wd R y) (lx : x.length = b + 1 + a + (R.w - 1)) (ly : y.length = x.length) (ho : on R x = on R y) : x.getD (b + (R.w - 1)) 0 = y.getD (b + (R.w - 1)) 0 := by
  have cut : ∀ {z : List Nat}, Wd R z → z.length = b + 1 + a + (R.w - 1) → num R.s (z.take (R.w - 1)) < manyE R ∧ outsE R (num R.s (z.take (R.w - 1))) (z.drop (R.w - 1)) = on R z ∧ Wd R (z.drop (R.w - 1)) ∧ (z.drop (R.w - 1)).length = b + 1 + a := fun {z} wz lz => by
    have wt : Wd R (z.take (R.w - 1)) := fun c hc => wz c (List.mem_of_mem_take hc)
    have wd : Wd R (z.drop (R.w - 1)) := fun c hc => wz c (List.mem_of_mem_drop hc)
    have lt : (z.take (R.w - 1)).length = R.w - 1 := by rw [List.length_take]; omega
    refine ⟨?_, ?_, wd, by rw [List.length_drop]; omega⟩
    · have := num_lt (s := R.s) _ wt
      rwa [lt] at this
    · have := on_outs h (z.drop (R.w - 1)) (z.take (R.w - 1)) lt wt wd
      rw [List.take_append_drop] at this
      exact this.symm
  obtain ⟨e1, e2, e3, e4⟩ := cut wx lx
  obtain ⟨f1, f2, f3, f4⟩ := cut wy (ly.trans lx)
  generalize num R.s (x.take (R.w - 1)) = e at e1 e2
  generalize num R.s (y.take (R.w - 1)) = f at f1 f2
  have gx : x.getD (b + (R.w - 1)) 0 = (x.drop (R.w - 1)).getD b 0 := by
    simp only [List.getD_eq_getElem?_getD, List.getElem?_drop]
    rw [Nat.add_comm]
  have gy : y.getD (b + (R.w - 1)) 0 = (y.drop (R.w - 1)).getD b 0 := by
    simp only [List.getD_eq_getElem?_getD, List.getElem?_drop]
    rw [Nat.add_comm]
  rw [gx, gy]
  generalize x.drop (R.w - 1) = cs at e2 e3 e4
  generalize y.drop (R.w - 1) = ds at f2 f3 f4
  obtain ⟨v1, _⟩ := way_zip (p := (e, f)) (e4.trans f4.symm) e3 f3 (by show outsE R e cs = outsE R f ds; rw [e2, f2, ho])
  have lw : (cs.zip ds).length = b + 1 + a := by rw [List.length_zip]; omega
  have hb : b < (cs.zip ds).length := by omega
  have hc : (cs.zip ds)[b] = (cs[b]'(by omega), ds[b]'(by omega)) := List.getElem_zip
  have e := take_mid (cs.zip ds) b hb
  rw [e, validW_append] at v1
  rw [List.getD_eq_getElem?_getD, List.getD_eq_getElem?_getD, List.getElem?_eq_getElem (by omega), List.getElem?_eq_getElem (by omega)]
  show cs[b] = ds[b]
  apply Classical.byContradiction
  intro hne
  have : toldN R b a = false := (told_iff h b a).mpr ⟨endW R (_, _) ((cs.zip ds).take b), (cs.zip ds)[b], (mem_ahead h b _).mpr ⟨_, _, ⟨e1, f1⟩, v1.1, by rw [List.length_take]; omega, rfl⟩, v1.2.1, by rw [hc]; exact hne, (mem_behind h a _).mpr ⟨nxW_ok h _ _, _, v1.2.2, by rw [List.length_drop]; omega⟩⟩
  rw [ht] at this
  cases this
/-- what a piece tells -/
def tellN (R : Rule) (b a : Nat) (l : List Nat) : List Nat := (List.range (l.length + 1 - (b + 1 + a))).map fun p => ((leastN R ((l.drop p).take (b + 1 + a))).getD []).getD (b + (R.w - 1)) 0
theorem tell_on {R : Rule} (h : R.ok) {b a : Nat} (ht : toldN R b a = true) {x : List Nat} (wx : Wd R x) : tellN R b a (on R x) = (x.drop (b + (R.w - 1))).take ((on R x).length + 1 - (b + 1 + a)) := by
  have w1 := h.w1
  apply List.ext_getElem?
  intro p
  unfold tellN
  by_cases hp : p < (on R x).length + 1 - (b + 1 + a)
  · rw [List.getElem?_map, List.getElem?_range hp, List.getElem?_take_of_lt hp, List.getElem?_drop]
    have ol := on_len R x
    have hk : p + (R.w + (b + 1 + a) - 1) ≤ x.length := by omega
    have hw := on_part R w1 x p (b + 1 + a) hk
    have wz : Wd R ((x.drop p).take (R.w + (b + 1 + a) - 1)) := fun c hc => wx c (List.mem_of_mem_drop (List.mem_of_mem_take hc))
    have lz : ((x.drop p).take (R.w + (b + 1 + a) - 1)).length = b + 1 + a + (R.w - 1) := by rw [List.length_take, List.length_drop]; omega
    have gz : ((x.drop p).take (R.w + (b + 1 + a) - 1)).getD (b + (R.w - 1)) 0 = x.getD (p + (b + (R.w - 1))) 0 := by
      rw [List.getD_eq_getElem?_getD, List.getElem?_take_of_lt (by omega), List.getElem?_drop, List.getD_eq_getElem?_getD]
    generalize (x.drop p).take (R.w + (b + 1 + a) - 1) = z at hw wz lz gz
    show some (((leastN R (((on R x).drop p).take (b + 1 + a))).getD []).getD (b + (R.w - 1)) 0) = _
    rw [← hw]
    have hz : z ∈ origN R (on R z) := (mem_origN h).mpr ⟨by rw [on_len]; omega, wz, rfl⟩
    rw [leastN_head h]
    cases q : origN R (on R z) with
    | nil => rw [q] at hz; cases hz
    | cons y ys =>
      obtain ⟨y1, y2, y3⟩ := (mem_origN h).mp (show y ∈ origN R (on R z) by rw [q]; exact List.mem_cons_self)
      have ag := told_agree h ht (x := y) (y := z) y2 wz (by rw [y1, on_len]; omega) (by rw [y1, on_len]; omega) y3
      show some (y.getD (b + (R.w - 1)) 0) = x[b + (R.w - 1) + p]?
      rw [ag, gz, List.getD_eq_getElem?_getD, Nat.add_comm p, List.getElem?_eq_getElem (by omega)]
      rfl
  · rw [List.getElem?_eq_none, List.getElem?_eq_none]
    · rw [List.length_take]; omega
    · rw [List.length_map, List.length_range]; omega
/-! ### rings told back -/
theorem onRing_at {R : Rule} (r : List Nat) {p : Nat} (w1 : 1 ≤ R.w) (hp : p < r.length) : (onRing R r)[p]? = some (R.t.getD (num R.s ((List.range R.w).map fun i => r.getD ((p + i) % r.length) 0)) 0) := by
  unfold onRing on
  rw [List.getElem?_map, List.getElem?_range (by rw [around_len]; omega)]
  show some (R.t.getD (num R.s (((around r (R.w - 1)).drop p).take R.w)) 0) = _
  rw [around_win r (R.w - 1) p R.w (by omega)]
def rotR (k : Nat) (r : List Nat) : List Nat := r.drop k ++ r.take k
theorem rot_len (k : Nat) (r : List Nat) : (rotR k r).length = r.length := by
  unfold rotR
  rw [List.length_append, List.length_drop, List.length_take]
  omega
theorem rot_at {k : Nat} {r : List Nat} (hk : k < r.length) {p : Nat} (hp : p < r.length) : (rotR k r).getD p 0 = r.getD ((k + p) % r.length) 0 := by
  unfold rotR
  rw [List.getD_eq_getElem?_getD, List.getD_eq_getElem?_getD]
  by_cases h : p < r.length - k
  · rw [List.getElem?_append_left (by rw [List.length_drop]; exact h), List.getElem?_drop, Nat.mod_eq_of_lt (by omega)]
  · rw [List.getElem?_append_right (by rw [List.length_drop]; omega), List.length_drop, List.getElem?_take_of_lt (by omega)]
    have : (k + p) % r.length = p - (r.length - k) := by
      rw [Nat.mod_eq_sub_mod (by omega), Nat.mod_eq_of_lt (by omega)]
      omega
    rw [this]
theorem rot_wd {R : Rule} {k : Nat} {r : List Nat} (h : Wd R r) : Wd R (rotR k r) := fun x hx => by
  rcases List.mem_append.mp hx with z | z
  · exact h x (List.mem_of_mem_drop z)
  · exact h x (List.mem_of_mem_take z)
theorem onRing_len' {R : Rule} (h : 1 ≤ R.w) (r : List Nat) : (onRing R r).length = r.length := by
  unfold onRing
  rw [on_len, around_len]
  omega
theorem rot_onRing {R : Rule} (w1 : 1 ≤ R.w) {k : Nat} {r : List Nat} (hk : k < r.length) : onRing R (rotR k r) = rotR k (onRing R r) := by
  apply List.ext_getElem
  · rw [onRing_len' w1, rot_len, rot_len, onRing_len' w1]
  · intro p h1 h2
    rw [onRing_len' w1, rot_len] at h1
    have hn : 0 < r.length := by omega
    have a1 := onRing_at (R := R) (rotR k r) (p := p) w1 (by rw [rot_len]; exact h1)
    have a2 := rot_at (k := k) (r := onRing R r) (p := p) (by rw [onRing_len' w1]; exact hk) (by rw [onRing_len' w1]; exact h1)
    rw [onRing_len' w1] at a2
    have a3 := onRing_at (R := R) r (p := (k + p) % r.length) w1 (Nat.mod_lt _ hn)
    have e1 : (onRing R (rotR k r))[p]'(by rw [onRing_len' w1, rot_len]; exact h1) = R.t.getD (num R.s ((List.range R.w).map fun i => (rotR k r).getD ((p + i) % r.length) 0)) 0 := by
      rw [rot_len] at a1
      exact (List.getElem?_eq_some_iff.mp a1).2
    have e2 : (rotR k (onRing R r))[p]'h2 = (onRing R r).getD ((k + p) % r.length) 0 := by
      rw [← a2, List.getD_eq_getElem?_getD, List.getElem?_eq_getElem h2]
      rfl
    have e4 : (onRing R r).getD ((k + p) % r.length) 0 = R.t.getD (num R.s ((List.range R.w).map fun i => r.getD (((k + p) % r.length + i) % r.length) 0)) 0 := by
      show ((onRing R r)[(k + p) % r.length]?).getD 0 = _
      rw [a3]
      rfl
    rw [e1, e2, e4]
    congr 2
    apply List.map_congr_left
    intro i _
    rw [rot_at hk (Nat.mod_lt _ hn)]
    congr 1
    rw [Nat.add_mod_mod, Nat.mod_add_mod, Nat.add_assoc]
/-- the ring told back, turned by k -/
theorem tell_ring {R : Rule} (h : R.ok) {b a : Nat} (ht : toldN R b a = true) {x : List Nat} (wx : Wd R x) (hx : x ≠ []) {k : Nat} (hk : k < x.length) (h0 : (k + b + (R.w - 1)) % x.length = 0) : tellN R b a (around (rotR k (onRing R x)) (b + a)) = x := by
  have w1 := h.w1
  have hn : 0 < x.length := by omega
  have hrx : rotR k x ≠ [] := fun z => by
    have := congrArg List.length z
    rw [rot_len, List.length_nil] at this
    omega
  rw [← rot_onRing w1 hk, around_on w1 hrx, tell_on h ht (around_lt (rot_wd wx) (by rw [rot_len]; exact hn)), on_len, around_len, rot_len]
  apply List.ext_getElem
  · rw [List.length_take, List.length_drop, around_len, rot_len]
    omega
  · intro p h1 h2
    have e1 : (around (rotR k x) (R.w - 1 + (b + a)))[b + (R.w - 1) + p]? = some ((rotR k x).getD ((b + (R.w - 1) + p) % x.length) 0) := by
      rw [around_get _ _ _ (by rw [rot_len]; omega), rot_len]
    have e2 := (List.getElem?_eq_some_iff.mp e1).2
    rw [List.getElem_take, List.getElem_drop, e2, rot_at hk (Nat.mod_lt _ hn), Nat.add_mod_mod]
    have e3 : (k + (b + (R.w - 1) + p)) % x.length = p := by
      rw [show k + (b + (R.w - 1) + p) = (k + b + (R.w - 1)) + p by omega, Nat.add_mod, h0, Nat.zero_add, Nat.mod_mod, Nat.mod_eq_of_lt h2]
    rw [e3, List.getD_eq_getElem?_getD, List.getElem?_eq_getElem h2]
    rfl
/-! ### no two rings come to one: each ring is come to by one -/
def InjR (R : Rule) : Prop := ∀ x y, Wd R x → Wd R y → x ≠ [] → x.length = y.length → onRing R x = onRing R y → x = y
theorem inj_norg {R : Rule} (h : R.ok) (hi : InjR R) : NoRg R := fun p hp w hw => by
  have g := rg_ok h hp hw
  exact g.ne (hi _ _ g.wx g.wy g.nx g.len g.on)
theorem rep_comm {α : Type} (x : List α) : ∀ k, (List.replicate k x).flatten ++ x = x ++ (List.replicate k x).flatten
  | 0 => by simp
  | k + 1 => by rw [List.replicate_succ, List.flatten_cons, List.append_assoc, rep_comm x k]
theorem ring_end {R : Rule} (h : R.ok) {x : List Nat} (wx : Wd R x) (hx : x ≠ []) : ∃ e, e < manyE R ∧ runE R e x = e := by
  have hp := manyE_pos h
  have wl : Wd R (List.replicate (R.w - 1) x).flatten := fun c hc => by
    obtain ⟨l, hl, hc⟩ := List.mem_flatten.mp hc
    rw [List.eq_of_mem_replicate hl] at hc
    exact wx c hc
  have ll : R.w - 1 ≤ (List.replicate (R.w - 1) x).flatten.length := by
    rw [rep_len]
    exact Nat.le_mul_of_pos_right _ (List.length_pos_iff.mpr hx)
  refine ⟨runE R 0 (List.replicate (R.w - 1) x).flatten, runE_lt h hp _, ?_⟩
  rw [← runE_append, rep_comm, runE_append]
  exact run_same h (runE_lt h hp _) hp wl ll
theorem mod_back {n k j : Nat} (hj : j < n) : ((j + (n - k % n)) % n + k) % n = j := by
  have hk := Nat.div_add_mod k n
  have hl := Nat.mod_lt k (by omega : 0 < n)
  rw [Nat.mod_add_mod, show j + (n - k % n) + k = j + n * (1 + k / n) by rw [Nat.mul_add, Nat.mul_one]; omega, Nat.add_mul_mod_self_left, Nat.mod_eq_of_lt hj]
theorem outs_at {R : Rule} (h : R.ok) {e : Nat} {x : List Nat} (he : e < manyE R) (wx : Wd R x) (hx : x ≠ []) (hr : runE R e x = e) {j : Nat} (hj : j < x.length) : (outsE R e x).getD j 0 = (onRing R x).getD ((j + (x.length - (R.w - 1) % x.length)) % x.length) 0 := by
  have hn : 0 < x.length := by omega
  rw [onRing_outs h he wx hx hr]
  have hi := Nat.mod_lt (j + (x.length - (R.w - 1) % x.length)) hn
  have hb := mod_back (n := x.length) (k := R.w - 1) hj
  generalize (j + (x.length - (R.w - 1) % x.length)) % x.length = i at hi hb
  rw [List.getD_eq_getElem?_getD (l := List.drop _ _), List.getElem?_drop, List.getElem?_take_of_lt (by omega), ← List.getD_eq_getElem?_getD, rep_getD _ _ _ _ (by
    rw [outsE_len, Nat.add_mul, Nat.one_mul]
    have : R.w - 1 ≤ (R.w - 1) * x.length := Nat.le_mul_of_pos_right _ hn
    omega), outsE_len, Nat.add_comm (R.w - 1) i, hb]
theorem norg_inj {R : Rule} (h : R.ok) (hn : NoRg R) : InjR R := fun x y wx wy hx hl ho => by
  have hy : y ≠ [] := fun z => by rw [z] at hl; exact hx (List.length_eq_zero_iff.mp hl)
  obtain ⟨e, he, re⟩ := ring_end h wx hx
  obtain ⟨f, hf, rf⟩ := ring_end h wy hy
  have hout : outsE R e x = outsE R f y := by
    apply List.ext_getElem
    · rw [outsE_len, outsE_len, hl]
    · intro j h1 h2
      rw [outsE_len] at h1
      have a1 := outs_at h he wx hx re h1
      have a2 := outs_at h hf wy hy rf (j := j) (by omega)
      rw [← hl, ← ho, ← a1] at a2
      rw [List.getD_eq_getElem?_getD, List.getD_eq_getElem?_getD, List.getElem?_eq_getElem (by rw [outsE_len]; omega), List.getElem?_eq_getElem (by rw [outsE_len]; omega)] at a2
      exact a2.symm
  obtain ⟨v1, v2⟩ := way_zip (p := (e, f)) hl wx wy hout
  have v2 : endW R (e, f) (x.zip y) = (e, f) := by
    rw [v2]
    show (runE R e x, runE R f y) = _
    rw [re, rf]
  exact zip_same hl (norg_like h hn ⟨he, hf⟩ v1 v2)
theorem onRing_wd {R : Rule} (h : R.ok) {x : List Nat} (wx : Wd R x) (hx : x ≠ []) : Wd R (onRing R x) := fun c hc => on_lt h (around_lt wx (List.length_pos_iff.mpr hx)) c hc
theorem ring_onto {R : Rule} (h : R.ok) (hi : InjR R) {r : List Nat} (wr : Wd R r) (hr : r ≠ []) : ∃ x, Wd R x ∧ x.length = r.length ∧ onRing R x = r := by
  have hs : 0 < R.s := by have := h.s2; omega
  have w1 := h.w1
  have cw : ∀ m, Wd R (cells R.s r.length m) := fun m => cells_lt hs _ _
  have cl : ∀ m, (cells R.s r.length m).length = r.length := fun m => cells_len _ _ _
  have cn : ∀ m, cells R.s r.length m ≠ [] := fun m z => by
    have := cl m
    rw [z, List.length_nil] at this
    exact hr (List.length_eq_zero_iff.mp this.symm)
  have ol : ∀ m, (onRing R (cells R.s r.length m)).length = r.length := fun m => by rw [onRing_len' w1, cl]
  have back : ∀ {u : List Nat}, Wd R u → u.length = r.length → cells R.s r.length (num R.s u) = u := fun {u} wu hu => by
    have := cells_num (s := R.s) u wu
    rwa [hu] at this
  have hn : ((List.range (R.s ^ r.length)).map fun m => num R.s (onRing R (cells R.s r.length m))).Nodup := by
    rw [List.nodup_iff_pairwise_ne, List.pairwise_map]
    refine List.pairwise_lt_range.imp_of_mem fun {m m'} hm hm' hlt z => ?_
    have e1 : onRing R (cells R.s r.length m) = onRing R (cells R.s r.length m') := by
      rw [← back (onRing_wd h (cw m) (cn m)) (ol m), ← back (onRing_wd h (cw m') (cn m')) (ol m'), z]
    have e2 := hi _ _ (cw m) (cw m') (cn m) (by rw [cl, cl]) e1
    have e3 := congrArg (num R.s) e2
    rw [num_cells hs _ _ (List.mem_range.mp hm), num_cells hs _ _ (List.mem_range.mp hm')] at e3
    omega
  have hin : num R.s r ∈ (List.range (R.s ^ r.length)).map fun m => num R.s (onRing R (cells R.s r.length m)) := by
    apply Classical.byContradiction
    intro hno
    have := nodup_len (M := R.s ^ r.length) (List.nodup_cons.mpr ⟨hno, hn⟩) fun o ho => by
      rcases List.mem_cons.mp ho with rfl | ho
      · exact num_lt r wr
      · obtain ⟨m, _, rfl⟩ := List.mem_map.mp ho
        have := num_lt (s := R.s) _ (onRing_wd h (cw m) (cn m))
        rwa [ol] at this
    rw [List.length_cons, List.length_map, List.length_range] at this
    omega
  obtain ⟨m, _, hm⟩ := List.mem_map.mp hin
  refine ⟨_, cw m, cl m, ?_⟩
  rw [← back (onRing_wd h (cw m) (cn m)) (ol m), hm, back wr rfl]
theorem tell_some {R : Rule} (h : R.ok) {m : Nat} {x : List Nat} (wx : Wd R x) {p : Nat} (hm : 1 ≤ m) (hp : p + m ≤ (on R x).length) : ∃ cs, leastN R (((on R x).drop p).take m) = some cs ∧ cs.length = m + (R.w - 1) := by
  have w1 := h.w1
  have ol := on_len R x
  have hk : p + (R.w + m - 1) ≤ x.length := by omega
  have hw := on_part R w1 x p m hk
  have wz : Wd R ((x.drop p).take (R.w + m - 1)) := fun c hc => wx c (List.mem_of_mem_drop (List.mem_of_mem_take hc))
  have lz : ((x.drop p).take (R.w + m - 1)).length = m + (R.w - 1) := by rw [List.length_take, List.length_drop]; omega
  generalize (x.drop p).take (R.w + m - 1) = z at hw wz lz
  rw [← hw]
  have hz : z ∈ origN R (on R z) := (mem_origN h).mpr ⟨by rw [on_len]; omega, wz, rfl⟩
  rw [leastN_head h]
  cases q : origN R (on R z) with
  | nil => rw [q] at hz; cases hz
  | cons y ys =>
    obtain ⟨y1, _, _⟩ := (mem_origN h).mp (show y ∈ origN R (on R z) by rw [q]; exact List.mem_cons_self)
    exact ⟨y, rfl, by rw [y1, on_len]; omega⟩
theorem ring_first {b w n : Nat} (hn : 0 < n) (hw : 1 ≤ w) : ((0 - (b : Int) - (w : Int) + 1) % (n : Int)).toNat < n ∧ (((0 - (b : Int) - (w : Int) + 1) % (n : Int)).toNat + b + (w - 1)) % n = 0 := by
  have h1 := Int.emod_nonneg (0 - (b : Int) - (w : Int) + 1) (show (n : Int) ≠ 0 by omega)
  have h2 := Int.emod_lt_of_pos (0 - (b : Int) - (w : Int) + 1) (show (0 : Int) < (n : Int) by omega)
  have h3 := Int.emod_add_mul_ediv (0 - (b : Int) - (w : Int) + 1) (n : Int)
  generalize hq : (0 - (b : Int) - (w : Int) + 1) % (n : Int) = i at h1 h2 h3
  generalize (0 - (b : Int) - (w : Int) + 1) / (n : Int) = j at h3
  refine ⟨by omega, Nat.mod_eq_zero_of_dvd ?_⟩
  refine Int.natCast_dvd_natCast.mp ⟨-j, ?_⟩
  rw [Int.mul_neg]
  omega

/-! ### the law's rings -/
def ringZ (c : Int) : Nat := if c / 12 % 8 = 1 then 1 + (c / 96 % 60).toNat else 1 + (c % 12).toNat
theorem ringZ_le (c : Int) : 1 ≤ ringZ c ∧ ringZ c ≤ 60 := by
  unfold ringZ
  split
  · have := Int.emod_lt_of_pos (c / 96) (show (0 : Int) < 60 by decide); omega
  · have := Int.emod_lt_of_pos c (show (0 : Int) < 12 by decide); omega
/-- no rings: no twins, no missing pieces -/
theorem norg_notw {R : Rule} (h : R.ok) (hn : NoRg R) : NoTw R := fun e cs ds he wc wd ho hr => by
  have hl : cs.length = ds.length := by rw [← outsE_len R cs e, ho, outsE_len]
  obtain ⟨v1, v2⟩ := way_zip (p := (e, e)) hl wc wd ho
  have v2 : endW R (e, e) (cs.zip ds) = (runE R e cs, runE R e cs) := by
    rw [v2]
    show (runE R e cs, runE R e ds) = _
    rw [← hr]
  exact zip_same hl (norg_diag2 h hn he (runE_lt h he cs) v1 v2)

abbrev topS (i : Nat) : Stmt := PySem.Challenge.pw_backrule_k11_whole_turned_back.main.body.getD i (.Pass ⟨0, 0, 0, 0⟩)
/-- where the classes of errors stand -/
structure Cs where
  RowError : Addr
  BadRule : Addr
  BadRow : Addr
  TooWide : Addr
  NoBack : Addr
  BadText : Addr
/-- what the top has written, but for the defs -/
structure Txt (K : PySem.W.Frag) (mg : Str → Option Value) (c : Cs) : Prop where
  b_ValueError : mg "ValueError" = none
  b_all : mg "all" = none
  b_bool : mg "bool" = none
  b_dict : mg "dict" = none
  b_enumerate : mg "enumerate" = none
  b_int : mg "int" = none
  b_isinstance : mg "isinstance" = none
  b_len : mg "len" = none
  b_list : mg "list" = none
  b_range : mg "range" = none
  b_sorted : mg "sorted" = none
  b_tuple : mg "tuple" = none
  k_MOST_SIGNS : ∃ t, mg "MOST_SIGNS" = some (.int 4 t)
  k_MOST_WIDE : ∃ t, mg "MOST_WIDE" = some (.int 4 t)
  k_MOST_ROWS : ∃ t, mg "MOST_ROWS" = some (.int 16 t)
  x_RowError : ExcK K mg "RowError" c.RowError
  x_BadRule : ExcK K mg "BadRule" c.BadRule
  x_BadRow : ExcK K mg "BadRow" c.BadRow
  x_TooWide : ExcK K mg "TooWide" c.TooWide
  x_NoBack : ExcK K mg "NoBack" c.NoBack
  x_BadText : ExcK K mg "BadText" c.BadText
  ec_BadRow : ExcC K c.BadRow
  ec_NoBack : ExcC K c.NoBack
  em_BadRow : PySem.W.exmOne K (.ref c.BadRow) (.ref c.RowError) = some true
  em_NoBack : PySem.W.exmOne K (.ref c.NoBack) (.ref c.RowError) = some true
  ki_BadRow_BadRow : PySem.W.kitOne K (.ref c.BadRow) (.ref c.BadRow) = some true
  ki_BadRow_BadRule : PySem.W.kitOne K (.ref c.BadRow) (.ref c.BadRule) = some false
  ki_BadRow_BadText : PySem.W.kitOne K (.ref c.BadRow) (.ref c.BadText) = some false
  ki_BadRow_NoBack : PySem.W.kitOne K (.ref c.BadRow) (.ref c.NoBack) = some false
  ki_BadRow_TooWide : PySem.W.kitOne K (.ref c.BadRow) (.ref c.TooWide) = some false
  ki_NoBack_BadRow : PySem.W.kitOne K (.ref c.NoBack) (.ref c.BadRow) = some false
  ki_NoBack_BadRule : PySem.W.kitOne K (.ref c.NoBack) (.ref c.BadRule) = some false
  ki_NoBack_BadText : PySem.W.kitOne K (.ref c.NoBack) (.ref c.BadText) = some false
  ki_NoBack_NoBack : PySem.W.kitOne K (.ref c.NoBack) (.ref c.NoBack) = some true
  ki_NoBack_TooWide : PySem.W.kitOne K (.ref c.NoBack) (.ref c.TooWide) = some false
  kv_BadRow : PySem.W.kitOne K (.ref c.BadRow) (.type "ValueError") = some true
  kv_NoBack : PySem.W.kitOne K (.ref c.NoBack) (.type "ValueError") = some true
section
variable {P : Program} {w : World} {K : PySem.W.Frag} {mg : Str → Option Value} {base : Heap} {c : Cs}
inductive φ_is_among : List PyData → Rs → Prop
  | mk (x : PyData) (lo hi : Int) : φ_is_among [x, .int lo, .int hi] (.k (.bool (among x lo hi)))
abbrev s_is_among : Stmt := topS 11
theorem sc_is_among : FnScope ["thing", "least", "most"] ["thing", "least", "most"] (defScope s_is_among) := ⟨rfl, rfl, rfl, by decide +kernel, rfl, by decide +kernel, by decide +kernel⟩
theorem ok_is_among (T : Txt K mg c) {f : Addr} {fd : FuncData} (F : Fun K "is_among" "is_among" s_is_among f fd) : FnOk P w K mg base (L2.CX P w) 1 f fd ["thing", "least", "most"] (spD K φ_is_among 3) := by
  refine def_ok F sc_is_among rfl fun cdv A outer s H E hr xs o hφ hm => ?_
  have nd := sc_is_among.nd
  cases hφ with
  | mk x lo hi =>
  have e0 : among x lo hi = (isIntD x && (!isBoolD x && among x lo hi)) := by
    cases x <;> rfl
  rw [e0]
  refine dss_one (ds_ret (dk_and (isi "int" (ve 0) T.b_isinstance T.b_int (kit_int x)).toE fun h1 => (dk_and (dk_not (isi "bool" (ve 0) T.b_isinstance T.b_bool (kit_bool x)).toE).toE fun h2 => de_one (?_ : DK _ _ _ _).toE).toE) rfl)
  cases x with
  | int i => exact dk_lele (ve 1) (ve 0) (ve 2)
  | bool k => cases h2
  | none => cases h1
  | str z => cases h1
  | list z => cases h1
  | tuple z => cases h1
  | dict z => cases h1
inductive φ_rows_of : List PyData → Rs → Prop
  | mk (s w : Nat) (h : s ≤ 1000) (h2 : w ≤ 1000) : φ_rows_of [nI s, nI w] (.k (nI (s ^ w)))
abbrev s_rows_of : Stmt := topS 12
theorem sc_rows_of : FnScope ["signs", "wide", "found", "turn"] ["signs", "wide"] (defScope s_rows_of) := ⟨rfl, rfl, rfl, by decide +kernel, rfl, by decide +kernel, by decide +kernel⟩
theorem ok_rows_of (T : Txt K mg c) {f : Addr} {fd : FuncData} (F : Fun K "rows_of" "rows_of" s_rows_of f fd) : FnOk P w K mg base (L2.CX P w) 1 f fd ["signs", "wide"] (spD K φ_rows_of 2) := by
  refine def_ok F sc_rows_of rfl fun cdv A outer s H E hr xs o hφ hm => ?_
  have nd := sc_rows_of.nd
  cases hφ with
  | mk sg wd h1 h2 =>
  refine dss_cons (set 2 (dk_nat (m := 1)) ?_)
  refine dss_cons (ds_for (List.range wd) nI [3] (fun pre ρ => ρ = [some (.d (nI sg)), some (.d (nI wd)), some (.d (nI (sg ^ pre.length))), none]) bX_po rfl (fun _ => rfl) (di_rangeN T.b_range (ve 1) (by omega)) rfl ?_ ?_)
  · intro pre a post ρ' hL hρ
    subst hρ
    refine ⟨_, _, gn 3 (js := [3]), dss_one (set 2 (dk_mulN (ve 2) (ve 0) (by omega)) ?_)⟩
    show _ = _
    rw [List.length_append, List.length_singleton, Nat.pow_succ]
    rfl
  · intro ρ' h
    subst h
    exact dss_one (ds_ret ((v 2).cast (by rw [List.length_range])) rfl)
inductive φ_number_of : List PyData → Rs → Prop
  | mk (s : Nat) (cs : List Nat) (h : s ≤ 100) : φ_number_of [nI s, nL cs] (.k (nI (num s cs)))
  | mkT (s : Nat) (cs : List Nat) (h : s ≤ 100) : φ_number_of [nI s, nT cs] (.k (nI (num s cs)))
abbrev s_number_of : Stmt := topS 15
theorem sc_number_of : FnScope ["signs", "cells", "found", "sign"] ["signs", "cells"] (defScope s_number_of) := ⟨rfl, rfl, rfl, by decide +kernel, rfl, by decide +kernel, by decide +kernel⟩
theorem ok_number_of (T : Txt K mg c) {f : Addr} {fd : FuncData} (F : Fun K "number_of" "number_of" s_number_of f fd) : FnOk P w K mg base (L2.CX P w) 1 f fd ["signs", "cells"] (spD K φ_number_of 2) := by
  refine def_ok F sc_number_of rfl fun cdv A outer s H E hr xs o hφ hm => ?_
  have nd := sc_number_of.nd
  cases hφ with
  | mk s cs hs =>
    refine dss_cons (set 2 (dk_nat (m := 0)) ?_)
    refine dss_cons (ds_for cs nI [3] (fun pre ρ => ρ = [some (.d (nI s)), some (.d (nL cs)), some (.d (nI (num s pre))), none]) bX_po rfl (fun _ => rfl) (di_list (v 1)) rfl ?_ ?_)
    · intro pre a post ρ' hL hρ
      subst hρ
      refine ⟨_, _, gn 3 (js := [3]), dss_one (set 2 (dk_addN (dk_mulN (ve 2) (ve 0) (by omega)).toE (ve 3)) ?_)⟩
      show _ = _
      rw [num_snoc]
      rfl
    · intro ρ' h
      subst h
      exact dss_one (ds_ret (v 2) rfl)
  | mkT s cs hs =>
    refine dss_cons (set 2 (dk_nat (m := 0)) ?_)
    refine dss_cons (ds_for cs nI [3] (fun pre ρ => ρ = [some (.d (nI s)), some (.d (nT cs)), some (.d (nI (num s pre))), none]) bX_po rfl (fun _ => rfl) (di_tup (v 1)) rfl ?_ ?_)
    · intro pre a post ρ' hL hρ
      subst hρ
      refine ⟨_, _, gn 3 (js := [3]), dss_one (set 2 (dk_addN (dk_mulN (ve 2) (ve 0) (by omega)).toE (ve 3)) ?_)⟩
      show _ = _
      rw [num_snoc]
      rfl
    · intro ρ' h
      subst h
      exact dss_one (ds_ret (v 2) rfl)
inductive φ_cells_of : List PyData → Rs → Prop
  | mk (s w n : Nat) (h : 0 < s) (h1 : s ≤ 100) (h2 : w ≤ 1000) : φ_cells_of [nI s, nI w, nI n] (.f ((cells s w n).map nI))
abbrev s_cells_of : Stmt := topS 16
theorem sc_cells_of : FnScope ["signs", "wide", "number", "found", "turn"] ["signs", "wide", "number"] (defScope s_cells_of) := ⟨rfl, rfl, rfl, by decide +kernel, rfl, by decide +kernel, by decide +kernel⟩
theorem ok_cells_of (T : Txt K mg c) {f : Addr} {fd : FuncData} (F : Fun K "cells_of" "cells_of" s_cells_of f fd) : FnOk P w K mg base (L2.CX P w) 1 f fd ["signs", "wide", "number"] (spD K φ_cells_of 3) := by
  refine def_ok F sc_cells_of rfl fun cdv A outer s H E hr xs o hφ hm => ?_
  have nd := sc_cells_of.nd
  cases hφ with
  | mk sg wd n h0 h1 h2 =>
  refine dss_cons (setF 3 (df_lst dak_nil (Nat.zero_le _)) ?_)
  refine dss_cons (ds_for (List.range wd) nI [4] (fun pre ρ => ρ = [some (.d (nI sg)), some (.d (nI wd)), some (.d (nI (n / sg ^ pre.length))), some (.l ((cells sg pre.length n).reverse.map nI)), none]) bX_po rfl (fun _ => rfl) (di_rangeN T.b_range (ve 1) (by omega)) ?_ ?_ ?_)
  · show _ = _
    rw [List.length_nil, Nat.pow_zero, Nat.div_one]
    rfl
  · intro pre a post ρ' hL hρ
    subst hρ
    have hz : pre.length < 1000 := by
      have := congrArg List.length hL
      rw [List.length_range, List.length_append, List.length_cons] at this
      omega
    refine ⟨_, _, gn 4 (js := [4]), dss_cons (app 3 (dk_modN (ve 2) (ve 0) h0) ?_ ?_)⟩
    · rw [List.length_map, List.length_reverse, cells_len]
      exact small1000 (by omega)
    refine dss_one (set 2 (dk_divN (ve 2) (ve 0) ⟨h0, by omega⟩) ?_)
    show _ = _
    rw [List.length_append, List.length_singleton, Nat.pow_succ, ← Nat.div_div_eq_div_mul]
    show _ = [some (Sl.d (nI sg)), some (.d (nI wd)), some (.d (nI (n / sg ^ pre.length / sg))), some (.l (((n / sg ^ pre.length % sg) :: cells sg pre.length n).reverse.map nI)), none]
    rw [List.reverse_cons, List.map_append]
    rfl
  · intro ρ' h
    subst h
    refine dss_one (ds_retF (df_rev (vl 3)) ?_)
    show _ = _
    rw [List.length_range, List.map_reverse, List.reverse_reverse]
inductive φ_around : List PyData → Rs → Prop
  | mk (r : List Nat) (m : Nat) (h : r ≠ []) (hz : r.length + m ≤ 1000000) : φ_around [nL r, nI m] (.f ((around r m).map nI))
abbrev s_around : Stmt := topS 22
theorem sc_around : FnScope ["ring", "many", "place"] ["ring", "many"] (defScope s_around) := ⟨rfl, rfl, rfl, by decide +kernel, rfl, by decide +kernel, by decide +kernel⟩
theorem ok_around (T : Txt K mg c) {f : Addr} {fd : FuncData} (F : Fun K "around" "around" s_around f fd) : FnOk P w K mg base (L2.CX P w) 1 f fd ["ring", "many"] (spD K φ_around 2) := by
  refine def_ok F sc_around rfl fun cdv A outer s H E hr xs o hφ hm => ?_
  have nd := sc_around.nd
  cases hφ with
  | mk r m h0 hz =>
  have hp : 0 < r.length := List.length_pos_iff.mpr h0
  refine dss_one (ds_retF ((lc1 (own := [("place", 2)]) (List.range (r.length + m)) nI (fun p => nI (r.getD (p % r.length) 0)) (fun p => [some (.d (nL r)), some (.d (nI m)), some (.d (nI p))])
    (di_rangeN T.b_range (((dk_addN (lenL (ve 0) T.b_len).toE (ve 1)).cast (by rw [List.length_map])).toE) (by omega)) (by rw [List.length_range]; omega) (fun a _ _ _ _ _ _ => gn 2)
    (fun a _ _ _ _ _ _ => ixLn (v 0).toL ((dk_modN (ve 2) (lenL (ve 0) T.b_len).toE (by rw [List.length_map]; exact hp)).cast (by rw [List.length_map])).toE (Nat.mod_lt _ hp)))) ?_)
  show _ = _
  unfold Br.around
  rw [List.map_map]
  rfl
inductive φ_way_back : List PyData → Rs → Prop
  | mk (R : Rule) (s : Pr) (m : List EW) (hn : (bKeys m).Nodup) (hp : ∀ e ∈ m, e.2.length = 1 ∨ (endW R s e.2.dropLast, e.2.dropLast) ∈ m) (he : ∀ e ∈ m, EntW R s e) (e : EW) (hme : e ∈ m) (hl : e.2.length ≤ 1000) : φ_way_back [.dict (dOfT (encQ (cameL R s m))), encP e.1] (.f (e.2.map encP))
abbrev s_way_back : Stmt := topS 33
theorem sc_way_back : FnScope ["came", "pair", "found", "one", "other"] ["came", "pair"] (defScope s_way_back) := ⟨rfl, rfl, rfl, by decide +kernel, rfl, by decide +kernel, by decide +kernel⟩
theorem ok_way_back (T : Txt K mg c) {f : Addr} {fd : FuncData} (F : Fun K "way_back" "way_back" s_way_back f fd) : FnOk P w K mg base (L2.CX P w) 1 f fd ["came", "pair"] (spD K φ_way_back 2) := by
  refine def_ok F sc_way_back rfl fun cdv A outer s H E hr xs o hφ hm => ?_
  have nd := sc_way_back.nd
  cases hφ with
  | mk R s m hn hp he e hme hl =>
  refine dss_cons (setF 2 (lst dak_nil) ?_)
  let pd : List Pr → PyData := fun w => if w.length = 0 then .none else encP (endW R s w)
  refine dss_cons (ds_while (fun k ρ => ∃ w u, e.2 = w ++ u ∧ k = w.length ∧ (w ≠ [] → (endW R s w, w) ∈ m) ∧ ∃ x3 x4, ρ = [some (.d (.dict (dOfT (encQ (cameL R s m))))), some (.d (pd w)), some (.l (u.reverse.map encP)), x3, x4]) e.2.length bX_po ⟨e.2, [], by simp, rfl, fun _ => ?_, none, none, ?_⟩ ?_)
  · have := (he e hme).2.2
    rw [this]
    exact hme
  · have h1 : pd e.2 = encP e.1 := by
      show (if e.2.length = 0 then PyData.none else encP (endW R s e.2)) = _
      rw [if_neg (fun z => ent_ne (he e hme) (List.length_eq_zero_iff.mp z)), (he e hme).2.2]
    rw [h1]
    rfl
  rintro k ρ' ⟨w, u, hwu, rfl, hw, x3, x4, rfl⟩
  rcases List.eq_nil_or_concat w with rfl | ⟨w0, c, rfl⟩
  · refine ⟨false, (db_notN (ve 1)).cast (by rfl), (fun h => by cases h), fun _ => ?_⟩
    refine dss_one (ds_retF ((df_rev (vl 2)).cast (ys := e.2.map encP) ?_) ?_)
    · rw [hwu, List.nil_append, ← List.map_reverse, List.reverse_reverse]
    · rfl
  · rw [List.concat_eq_append] at hwu hw ⊢
    have hmem := hw (by simp)
    have hpd : pd (w0 ++ [c]) = encP (endW R s (w0 ++ [c])) := if_neg (by simp)
    rw [hpd]
    refine ⟨true, (db_notN (ve 1)).cast (by rfl), fun _ => ?_, (fun h => by cases h)⟩
    have hlook := cameL_look (R := R) (s := s) hn hmem
    have hcv : cameV R s (w0 ++ [c]) = .tuple [pd w0, nI c.1, nI c.2] := by
      unfold cameV prevD
      have e1 : ((w0 ++ [c]).length = 1) = (w0.length = 0) := by rw [List.length_append, List.length_singleton]; simp
      have e2 : (w0 ++ [c]).dropLast = w0 := by simp
      have e3 : (w0 ++ [c]).getLastD (0, 0) = c := by simp
      rw [e2, e3]
      show PyData.tuple [if (w0 ++ [c]).length = 1 then _ else _, _, _] = PyData.tuple [if w0.length = 0 then _ else _, _, _]
      simp only [e1]
    simp only at hlook
    rw [hcv] at hlook
    refine dss_cons (setT (js := [1, 3, 4]) (dk_ixD hr (DK.toM (v 0)) (ve 1) hlook) (gtup (gcons (gn 1) (gcons (gn 3) (gcons (gn 4))))) ?_)
    refine dss_one (app 2 (x := encP c) (tup (ak (v 3) (ak (v 4)))) ?_ ⟨w0.length, by rw [List.length_append, List.length_singleton]; omega, w0, c :: u, by rw [hwu]; simp, rfl, fun hne => ?_, some (.d (nI c.1)), some (.d (nI c.2)), ?_⟩)
    · rw [List.length_map, List.length_reverse, sizeLine_eq]
      have := congrArg List.length hwu
      rw [List.length_append] at this
      omega
    · rcases hp _ hmem with z | z
      · simp at z
        exact absurd z hne
      · have e2 : (w0 ++ [c]).dropLast = w0 := by simp
        simp only [e2] at z
        exact z
    · show _ = _
      rw [List.reverse_cons, List.map_append]
      rfl
inductive φ_is_shorter : List PyData → Rs → Prop
  | mk (a b : Option (List Pr)) : φ_is_shorter [optD a, optD b] (.k (.bool (shorterB a b)))
abbrev s_is_shorter : Stmt := topS 35
theorem sc_is_shorter : FnScope ["cells", "best"] ["cells", "best"] (defScope s_is_shorter) := ⟨rfl, rfl, rfl, by decide +kernel, rfl, by decide +kernel, by decide +kernel⟩
theorem ok_is_shorter (T : Txt K mg c) {f : Addr} {fd : FuncData} (F : Fun K "is_shorter" "is_shorter" s_is_shorter f fd) : FnOk P w K mg base (L2.CX P w) 1 f fd ["cells", "best"] (spD K φ_is_shorter 2) := by
  refine def_ok F sc_is_shorter rfl fun cdv A outer s H E hr xs o hφ hm => ?_
  have nd := sc_is_shorter.nd
  cases hφ with
  | mk a b =>
  cases a with
  | none => exact dss_one (ds_ret (dk_and (k := false) (k' := false) (DE.cast (DK.toE (dk_notN (ve 0))) (by rfl)) (fun h => by cases h)) rfl)
  | some w =>
    cases b with
    | none => exact dss_one (ds_ret (dk_and (k := true) (k' := true) (DE.cast (DK.toE (dk_notN (ve 0))) (by rfl)) (fun _ => de_one (de_or (k := true) (k' := false) (DE.cast (DK.toE (dk_isN (ve 1))) (by rfl)) (fun h => by cases h)))) rfl)
    | some u =>
      have e : (true && (false || decide (w.length < u.length))) = shorterB (some w) (some u) := by simp [shorterB, shorterO]
      refine dss_one (ds_ret ((dk_and (k := true) (k' := (false || decide (w.length < u.length))) (DE.cast (DK.toE (dk_notN (ve 0))) (by rfl)) (fun _ => de_one (de_or (k := false) (k' := decide (w.length < u.length)) (DE.cast (DK.toE (dk_isN (ve 1))) (by rfl)) (fun _ => de_one (DE.cast (DK.toE (dk_lt (DK.toE (lenL (xs := w.map encP) (ve 0) T.b_len)) (DK.toE (lenL (xs := u.map encP) (ve 1) T.b_len)))) (by rw [dec_lt, List.length_map, List.length_map])))))).cast (by rw [e])) rfl)
inductive φ_parting : List PyData → Rs → Prop
  | mk (R : Rule) (h : R.ok) : φ_parting [stepsD R] (.f ((partsN R).map encPP))
abbrev s_parting : Stmt := topS 39
theorem sc_parting : FnScope ["steps", "found", "pair", "fresh", "one", "other"] ["steps"] (defScope s_parting) := ⟨rfl, rfl, rfl, by decide +kernel, rfl, by decide +kernel, by decide +kernel⟩
theorem ok_parting (T : Txt K mg c) {f : Addr} {fd : FuncData} (F : Fun K "parting" "parting" s_parting f fd) : FnOk P w K mg base (L2.CX P w) 1 f fd ["steps"] (spD K φ_parting 1) := by
  refine def_ok F sc_parting rfl fun cdv A outer s H E hr xs o hφ hm => ?_
  have nd := sc_parting.nd
  cases hφ with
  | mk R h =>
  have s4 := h.s4
  have ss : R.s * R.s ≤ 16 := Nat.mul_le_mul s4 s4
  refine dss_cons (setF 1 (lst dak_nil) ?_)
  have al : (allP R).length ≤ 64 := by unfold allP; rw [List.length_map, List.length_range]; exact sq64 h
  have fl : ∀ L : List Pr, (L.flatMap (partsA R)).length ≤ L.length * 16 := fun L => by
    rw [List.length_flatMap]
    refine sum_le (fun p => (partsA R p).length) 16 L fun p _ => ?_
    unfold partsA
    rw [List.length_map]
    have h1 := List.length_filter_le (fun t : Pr × Pr => decide (t.2.1 < t.2.2)) (pairsN R p)
    have h2 := pairsN_len R p
    omega
  refine dss_cons (ds_forT 0 (allP R) encP [2] (fun pre ρ => ρ = [some (.d (stepsD R)), some (.l ((pre.flatMap (partsA R)).map encPP)), none, none, none, none]) bX_po rfl (keys_steps R) rfl ?_ ?_)
  · rintro pre p post ρ' hL rfl
    have hp : okP R p := (mem_allP h).mp (by rw [hL]; simp)
    have hpl : pre.length ≤ 64 := by
      have := congrArg List.length hL
      rw [List.length_append] at this
      omega
    have f1 := fl pre
    have f2 : (partsA R p).length ≤ 16 := by
      have := fl [p]
      rwa [List.flatMap_cons, List.flatMap_nil, List.append_nil] at this
    refine ⟨_, _, gn 2 (js := [2]), dss_one (ext 1 (xs := (pre.flatMap (partsA R)).map encPP) (ys := (partsA R p).map encPP) (DF.toL ((lc [("fresh", 3), ("one", 4), ("other", 5)] (pairsN R p) encT3 (fun t => decide (t.2.1 < t.2.2)) (fun t => encPP (p, t.1)) (fun t => [some (.d (stepsD R)), some (.l ((pre.flatMap (partsA R)).map encPP)), some (.d (encP p)), some (.d (encP t.1)), some (.d (nI t.2.1)), some (.d (nI t.2.2))]) (di_list (dk_ixD hr (DK.toM (v 0)) (ve 2) (look_steps h hp))) (by have := pairsN_len R p; omega) (fun t _ _ _ _ _ _ => gtup (gcons (gn 3) (gcons (gn 4) (gcons (gn 5))))) (fun t _ _ _ _ _ _ => pts1 (db_ltN (m1 := t.2.1) (m2 := t.2.2) (ve 4) (ve 5))) (fun t _ _ _ _ _ _ _ => tup (ak (v 2) (ak (v 3))))).cast (by unfold partsA; rw [List.map_map]; rfl))) (by rw [List.length_map, List.length_map, sizeLine_eq]; omega) ?_)⟩
    show _ = _
    rw [List.flatMap_append, List.flatMap_cons, List.flatMap_nil, List.append_nil, List.map_append]
    rfl
  · rintro ρ' rfl
    exact dss_one (retO 1 rfl)
inductive φ_led_to : List PyData → Rs → Prop
  | mk (R : Rule) (h : R.ok) (L : List Pr) (hb : ∀ p ∈ L, okP R p) : φ_led_to [stepsD R, setPD L] (.k (setPD (ledN R L)))
abbrev s_led_to : Stmt := topS 40
theorem sc_led_to : FnScope ["steps", "pairs", "found", "pair", "fresh", "one", "other"] ["steps", "pairs"] (defScope s_led_to) := ⟨rfl, rfl, rfl, by decide +kernel, rfl, by decide +kernel, by decide +kernel⟩
theorem ok_led_to (T : Txt K mg c) {f : Addr} {fd : FuncData} (F : Fun K "led_to" "led_to" s_led_to f fd) : FnOk P w K mg base (L2.CX P w) 1 f fd ["steps", "pairs"] (spD K φ_led_to 2) := by
  refine def_ok F sc_led_to rfl fun cdv A outer s H E hr xs o hφ hm => ?_
  have nd := sc_led_to.nd
  cases hφ with
  | mk R h L hb =>
  refine dss_cons (newT 2 false ?_)
  have small : ∀ acc : List Pr, acc.Nodup → (∀ p ∈ acc, okP R p) → (encQ (trueL acc)).length < 1000000 := fun acc hn ho => by
    rw [encQ_len]
    unfold trueL
    rw [List.length_map]
    have := set_len h hn ho
    omega
  refine dss_cons (ds_forT 1 L encP [3, 4, 5, 6] (fun pre ρ => ρ = [some (.d (stepsD R)), some (.d (setPD L)), some (.t false (encQ (trueL (pre.foldl (addA R) [])))), none, none, none, none]) bX_po rfl (keys_true L) rfl ?_ ?_)
  · rintro pre p post ρ' hL rfl
    have hp : okP R p := hb p (by rw [hL]; simp)
    have n0 : (pre.foldl (addA R) []).Nodup := ledF_nodup pre [] List.nodup_nil
    have o0 : ∀ x ∈ pre.foldl (addA R) [], okP R x := fun x hx => by
      rcases (ledF_mem pre []).mp hx with z | ⟨q, _, c, _, rfl⟩
      · cases z
      · exact nxW_ok h _ _
    rw [List.foldl_append, List.foldl_cons, List.foldl_nil]
    generalize pre.foldl (addA R) [] = acc at n0 o0
    refine ⟨_, _, gn 3 (js := [3, 4, 5, 6]), dss_one (ds_for (pairsN R p) encT3 [4, 5, 6] (fun pt ρ => ρ = [some (.d (stepsD R)), some (.d (setPD L)), some (.t false (encQ (trueL (pt.foldl (fun acc t => addU acc t.1) acc)))), some (.d (encP p)), none, none, none]) bX_po rfl (fun _ => rfl) (di_list (dk_ixD hr (DK.toM (v 0)) (ve 3) (look_steps h hp))) rfl ?_ ?_)⟩
    · rintro pt t po ρ' hL2 rfl
      have tm : ∀ x ∈ pt, okP R x.1 := fun x hx => by
        obtain ⟨q, c⟩ := x
        rw [(mem_pairsN.mp (show (q, c) ∈ pairsN R p by rw [hL2]; simp [hx])).2]
        exact nxW_ok h _ _
      refine ⟨_, _, gtup (gcons (gn 4 (js := [4, 5, 6])) (gcons (gn 5) (gcons (gn 6)))), dss_one (putT 2 (l := lP t.1) hr dk_bl.toV (ve 4) (small _ (addF_nodup pt acc n0) fun x hx => ?_) ?_)⟩
      · rcases (addF_mem pt acc).mp hx with z | ⟨y, hy, rfl⟩
        · exact o0 x z
        · exact tm y hy
      · rw [put_true, List.foldl_append, List.foldl_cons, List.foldl_nil]
        rfl
    · rintro ρ' rfl
      rfl
  · rintro ρ' rfl
    refine dss_freezeT 2 rfl ?_
    exact dss_one (ds_ret (v 2) rfl)
inductive φ_leading_to : List PyData → Rs → Prop
  | mk (R : Rule) (h : R.ok) (L : List Pr) : φ_leading_to [stepsD R, setPD L] (.k (setPD (backN R L)))
abbrev s_leading_to : Stmt := topS 41
theorem sc_leading_to : FnScope ["steps", "pairs", "found", "pair", "fresh", "one", "other"] ["steps", "pairs"] (defScope s_leading_to) := ⟨rfl, rfl, rfl, by decide +kernel, rfl, by decide +kernel, by decide +kernel⟩
theorem ok_leading_to (T : Txt K mg c) {f : Addr} {fd : FuncData} (F : Fun K "leading_to" "leading_to" s_leading_to f fd) : FnOk P w K mg base (L2.CX P w) 1 f fd ["steps", "pairs"] (spD K φ_leading_to 2) := by
  refine def_ok F sc_leading_to rfl fun cdv A outer s H E hr xs o hφ hm => ?_
  have nd := sc_leading_to.nd
  cases hφ with
  | mk R h L =>
  refine dss_cons (newT 2 false ?_)
  let f : Pr → Bool := fun p => (pairsN R p).any fun t => decide (t.1 ∈ L)
  refine dss_cons (ds_forT 0 (allP R) encP [3, 4, 5, 6] (fun pre ρ => ρ = [some (.d (stepsD R)), some (.d (setPD L)), some (.t false (encQ (trueL (pre.filter f)))), none, none, none, none]) bX_po rfl (keys_steps R) rfl ?_ ?_)
  · rintro pre p post ρ' hL rfl
    have hp : okP R p := (mem_allP h).mp (by rw [hL]; simp)
    have hn := allP_nodup h
    have al : (allP R).length ≤ 64 := by unfold allP; rw [List.length_map, List.length_range]; exact sq64 h
    have hnp : p ∉ pre.filter f := fun hm => by
      rw [hL, List.nodup_append] at hn
      exact hn.2.2 p (List.mem_filter.mp hm).1 p List.mem_cons_self rfl
    have hpl : pre.length ≤ 64 := by
      have := congrArg List.length hL
      rw [List.length_append] at this
      omega
    have e0 : (pre ++ [p]).filter f = pre.filter f ++ (if f p = true then [p] else []) := by
      rw [List.filter_append]
      congr 1
      by_cases z : f p = true
      · rw [if_pos z, List.filter_cons_of_pos z, List.filter_nil]
      · rw [if_neg z, List.filter_cons_of_neg z, List.filter_nil]
    have fl : (pre.filter f).length ≤ 64 := Nat.le_trans (List.length_filter_le _ _) hpl
    rw [e0]
    generalize pre.filter f = acc at hnp fl
    let g : List (Pr × Pr) → List Pr := fun pt => acc ++ (if (pt.any fun t => decide (t.1 ∈ L)) = true then [p] else [])
    refine ⟨_, _, gn 3 (js := [3, 4, 5, 6]), dss_one (ds_for (pairsN R p) encT3 [4, 5, 6] (fun pt ρ => ρ = [some (.d (stepsD R)), some (.d (setPD L)), some (.t false (encQ (trueL (g pt)))), some (.d (encP p)), none, none, none]) bX_po rfl (fun _ => rfl) (di_list (dk_ixD hr (DK.toM (v 0)) (ve 3) (look_steps h hp))) (by show _ = _; show _ = [_, _, some (Sl.t false (encQ (trueL (acc ++ [])))), _, _, _, _]; rw [List.append_nil]; rfl) ?_ ?_)⟩
    · rintro pt t po ρ' hL2 rfl
      refine ⟨_, _, gtup (gcons (gn 4 (js := [4, 5, 6])) (gcons (gn 5) (gcons (gn 6)))), dss_one (ds_if (k := decide (t.1 ∈ L)) ((db_inM (l := lP t.1) hr (ve 4) (DK.toM (v 1))).cast (in_true L t.1)) (fun hq => ?_) (fun hq => dss_nil ?_))⟩
      · refine dss_one (putT 2 (l := lP p) hr dk_bl.toV (ve 3) ?_ ?_)
        · rw [encQ_len]
          unfold trueL
          rw [List.length_map]
          show (acc ++ _).length < _
          rw [List.length_append]
          split
          · rw [List.length_singleton]; omega
          · rw [List.length_nil]; omega
        · have e1 : addU (g pt) p = g (pt ++ [t]) := by
            show addU (acc ++ _) p = acc ++ _
            rw [List.any_append, List.any_cons, List.any_nil, Bool.or_false, hq, Bool.or_true, if_pos rfl]
            unfold addU
            by_cases z : (pt.any fun t => decide (t.1 ∈ L)) = true
            · rw [if_pos z, if_pos (by simp)]
            · rw [if_neg z, List.append_nil, if_neg hnp]
          rw [put_true, e1]
          rfl
      · have e1 : g (pt ++ [t]) = g pt := by
          show acc ++ _ = acc ++ _
          rw [List.any_append, List.any_cons, List.any_nil, Bool.or_false, hq, Bool.or_false]
        show _ = _
        rw [e1]
        rfl
    · rintro ρ' rfl
      rfl
  · rintro ρ' rfl
    refine dss_freezeT 2 rfl ?_
    exact dss_one (ds_ret (v 2) rfl)
inductive φ_is_told : List PyData → Rs → Prop
  | mk (P : List (Pr × Pr)) (A B : List Pr) : φ_is_told [.list (P.map encPP), setPD A, setPD B] (.k (.bool (P.all fun x => !(decide (x.1 ∈ A) && decide (x.2 ∈ B)))))
abbrev s_is_told : Stmt := topS 42
theorem sc_is_told : FnScope ["parts", "ahead", "behind", "pair", "fresh"] ["parts", "ahead", "behind"] (defScope s_is_told) := ⟨rfl, rfl, rfl, by decide +kernel, rfl, by decide +kernel, by decide +kernel⟩
theorem ok_is_told (T : Txt K mg c) {f : Addr} {fd : FuncData} (F : Fun K "is_told" "is_told" s_is_told f fd) : FnOk P w K mg base (L2.CX P w) 1 f fd ["parts", "ahead", "behind"] (spD K φ_is_told 3) := by
  refine def_ok F sc_is_told rfl fun cdv A outer s H E hr xs o hφ hm => ?_
  have nd := sc_is_told.nd
  cases hφ with
  | mk PP A2 B2 =>
  refine dss_cons (ds_for PP encPP [3, 4] (fun pre ρ => ρ = [some (.d (.list (PP.map encPP))), some (.d (setPD A2)), some (.d (setPD B2)), none, none] ∧ ∀ x ∈ pre, (decide (x.1 ∈ A2) && decide (x.2 ∈ B2)) = false) bX_po rfl (fun _ => rfl) (di_list (v 0)) ⟨rfl, fun x hx => by cases hx⟩ ?_ ?_)
  · rintro pre x post ρ' hL ⟨rfl, hno⟩
    refine ⟨_, _, gtup (gcons (gn 3 (js := [3, 4])) (gcons (gn 4))), dss_one (ds_if (k := decide (x.1 ∈ A2) && decide (x.2 ∈ B2)) (DW.toB (dw_and ((db_inM (l := lP x.1) hr (ve 3) (DK.toM (v 1))).cast (in_true A2 x.1)) fun _ => dw_and1 ((db_inM (l := lP x.2) hr (ve 4) (DK.toM (v 2))).cast (in_true B2 x.2)))) (fun hq => ?_) (fun hq => dss_nil ?_))⟩
    · refine dss_one (ds_ret dk_bl ?_)
      show Rs.k _ = Rs.k _
      congr 2
      symm
      rw [List.all_eq_false]
      exact ⟨x, by rw [hL]; simp, by simp [hq]⟩
    · refine ⟨rfl, fun y hy => ?_⟩
      rcases List.mem_append.mp hy with z | z
      · exact hno y z
      · rw [List.mem_singleton] at z; subst z; exact hq
  · rintro ρ' ⟨rfl, hno⟩
    refine dss_one (ds_ret dk_bl ?_)
    show Rs.k _ = Rs.k _
    congr 2
    symm
    rw [List.all_eq_true]
    exact fun x hx => by simp [hno x hx]
inductive φ__law_cell_at : List PyData → Rs → Prop
  | mk (ns : List Int) (k : Nat) : φ__law_cell_at [scrD ns, nI k] (.k (.int (cellAt ns k)))
abbrev s__law_cell_at : Stmt := topS 57
theorem sc__law_cell_at : FnScope ["_law_script", "_law_k"] ["_law_script", "_law_k"] (defScope s__law_cell_at) := ⟨rfl, rfl, rfl, by decide +kernel, rfl, by decide +kernel, by decide +kernel⟩
theorem ok__law_cell_at (T : Txt K mg c) {f : Addr} {fd : FuncData} (F : Fun K "_law_cell_at" "_law_cell_at" s__law_cell_at f fd) : FnOk P w K mg base (L2.CX P w) 1 f fd ["_law_script", "_law_k"] (spD K φ__law_cell_at 2) := by
  refine def_ok F sc__law_cell_at rfl fun cdv A outer s H E hr xs o hφ hm => ?_
  have nd := sc__law_cell_at.nd
  cases hφ with
  | mk ns k =>
  refine dss_cons (ds_if (db_ltN (ve 1) (lenR (ve 0) T.b_len).toE) (fun h => ?_) (fun h => dss_nil ?_))
  · rw [List.length_map, decide_eq_true_eq] at h
    exact dss_one (ds_ret (dk_ixR (ve 0) (ve 1) (by intro _ _; rfl) (atI_map ns .int k 0 h) rfl) rfl)
  · rw [List.length_map, decide_eq_false_iff_not] at h
    refine dss_one (ds_ret (dk_int.cast ?_) rfl)
    show _ = PyData.int (ns.getD k 0)
    rw [List.getD, List.getElem?_eq_none (by omega)]
    rfl
inductive φ__law_mixed : List PyData → Rs → Prop
  | mk (c : Int) (k : Nat) (hk : k ≤ 1000000) : φ__law_mixed [.int c, nI k] (.k (nI (mixed c k)))
abbrev s__law_mixed : Stmt := topS 58
theorem sc__law_mixed : FnScope ["_law_cell", "_law_k", "_law_number"] ["_law_cell", "_law_k"] (defScope s__law_mixed) := ⟨rfl, rfl, rfl, by decide +kernel, rfl, by decide +kernel, by decide +kernel⟩
theorem ok__law_mixed (T : Txt K mg c) {f : Addr} {fd : FuncData} (F : Fun K "_law_mixed" "_law_mixed" s__law_mixed f fd) : FnOk P w K mg base (L2.CX P w) 1 f fd ["_law_cell", "_law_k"] (spD K φ__law_mixed 2) := by
  refine def_ok F sc__law_mixed rfl fun cdv A outer s H E hr xs o hφ hm => ?_
  have nd := sc__law_mixed.nd
  cases hφ with
  | mk cell k hk =>
  refine dss_cons (set 2 (dk_modN (m' := 2147483647) (dk_mulN (dk_addN (dk_modZ (ve 0) de_int (by decide)).toE (de_nat (m := 1))).toE (de_nat (m := 48271)) (.inr (by decide))).toE de_nat (by decide)) ?_)
  exact dss_one (ds_ret (dk_divN (m' := 7) (dk_modN (m' := 2147483629) (dk_mulN (ve 2) (dk_addN (dk_addN (de_nat (m := 16807)) (dk_mulN (dk_mulN (de_nat (m := 7919)) (ve 1) (.inl (by decide))).toE (ve 1) (.inr (by omega))).toE).toE (dk_mulN (de_nat (m := 31)) (ve 1) (.inl (by decide))).toE).toE
    (.inl (Nat.lt_trans (Nat.mod_lt _ (by decide)) (by decide)))).toE de_nat (by decide)).toE de_nat (by decide)) rfl)
inductive φ__law_between : List PyData → Rs → Prop
  | mk (k : Nat) (way : Int) : φ__law_between [nI k, .int way] (.k (nI (between k way)))
abbrev s__law_between : Stmt := topS 61
theorem sc__law_between : FnScope ["_law_k", "_law_way", "_law_cells", "_law_at", "_law_rest"] ["_law_k", "_law_way"] (defScope s__law_between) := ⟨rfl, rfl, rfl, by decide +kernel, rfl, by decide +kernel, by decide +kernel⟩
theorem ok__law_between (T : Txt K mg c) {f : Addr} {fd : FuncData} (F : Fun K "_law_between" "_law_between" s__law_between f fd) : FnOk P w K mg base (L2.CX P w) 1 f fd ["_law_k", "_law_way"] (spD K φ__law_between 2) := by
  refine def_ok F sc__law_between rfl fun cdv A outer s H E hr xs o hφ hm => ?_
  have nd := sc__law_between.nd
  cases hφ with
  | mk k way =>
  have d2 := Int.emod_two_eq (way / 2)
  have hat : (way / 2 % 2).toNat ≤ 1 := by omega
  refine dss_cons (setF 2 ((lst (ak (dk_divN (ve 0) (de_nat (m := 8)) (by decide)) (ak (dk_modN (dk_divN (ve 0) (de_nat (m := 4)) (by decide)).toE (de_nat (m := 2)) (by decide)) (ak (dk_modN (dk_divN (ve 0) (de_nat (m := 2)) (by decide)).toE (de_nat (m := 2)) (by decide)) (ak (dk_modN (ve 0) (de_nat (m := 2)) (by decide))))))).cast (show _ = (betweenL k).map nI from rfl)) ?_)
  refine dss_cons (set 3 (dk_addN (de_nat (m := 1)) (dk_modZ (dk_div (ve 1) de_int (by decide)).toE de_int (by decide)).toE) ?_)
  refine dss_cons (setF 4 ((df_cat (sl (vl 2) do_none (do_some (ve 3))).toL (sl (vl 2) (do_some (dk_addN (ve 3) (de_nat (m := 1))).toE) do_none).toL (by rw [sizeLine_eq]; simp only [Dt.cutD, List.length_take, List.length_drop, List.length_map]; show _ ≤ _; simp only [betweenL, List.length_cons, List.length_nil]; omega)).cast (show _ = (betweenR k way).map nI from ?_)) ?_)
  · rw [cutD_map, cutD_map, ← List.map_append]
    unfold betweenR
    congr 1
    rw [HT.sIx_nat, HT.sIx_nat]
    rcases d2 with e | e <;> rw [e] <;> rfl
  refine dss_one (ds_ret (dk_modN (dk_addN (ixLn (vl 2) (ve 3) (show 1 + (way / 2 % 2).toNat < 4 by omega)).toE ((intB (dk_eqL hr (vle 4) ((ixL (x := nL (if way % 2 = 0 then [1, 0, 1] else [0, 1, 0])) (lst (ak (lst (ak (dk_nat (m := 1)) (ak (dk_nat (m := 0)) (ak (dk_nat (m := 1)))))).toK (ak (lst (ak (dk_nat (m := 0)) (ak (dk_nat (m := 1)) (ak (dk_nat (m := 0)))))).toK))).toL (dk_mod (ve 1) de_int (by decide)).toE (by rw [atI2]; split <;> rfl))).toE).toE T.b_int).cast (y := nI (if betweenR k way = (if way % 2 = 0 then [1, 0, 1] else [0, 1, 0]) then 1 else 0)) ?_).toE).toE (de_nat (m := 2)) (by decide)) rfl)
  by_cases e : betweenR k way = (if way % 2 = 0 then [1, 0, 1] else [0, 1, 0])
  · rw [if_pos e, decide_eq_true e]; rfl
  · rw [if_neg e, decide_eq_false e]; rfl
inductive φ__law_beside : List PyData → Rs → Prop
  | mk (k : Nat) (way : Int) (h : k < 9) : φ__law_beside [nI k, .int way] (.k (nI (beside k way)))
abbrev s__law_beside : Stmt := topS 62
theorem sc__law_beside : FnScope ["_law_k", "_law_way", "_law_told_here", "_law_cell", "_law_near"] ["_law_k", "_law_way"] (defScope s__law_beside) := ⟨rfl, rfl, rfl, by decide +kernel, rfl, by decide +kernel, by decide +kernel⟩
theorem ok__law_beside (T : Txt K mg c) {f : Addr} {fd : FuncData} (F : Fun K "_law_beside" "_law_beside" s__law_beside f fd) : FnOk P w K mg base (L2.CX P w) 1 f fd ["_law_k", "_law_way"] (spD K φ__law_beside 2) := by
  refine def_ok F sc__law_beside rfl fun cdv A outer s H E hr xs o hφ hm => ?_
  have nd := sc__law_beside.nd
  cases hφ with
  | mk k way h9 =>
  have h1 : (way / 2 % 3).toNat < 3 := by have := Int.emod_lt_of_pos (way / 2) (show (0 : Int) < 3 by decide); have := Int.emod_nonneg (way / 2) (show (3 : Int) ≠ 0 by decide); omega
  refine dss_cons (set 2 (dk_modZ (dk_div (ve 1) de_int (by decide)).toE de_int (by decide)) ?_)
  refine dss_cons (setT (js := [3, 4]) (ixL (x := .tuple [nI (if way % 2 = 0 then k / 3 else k % 3), nI (if way % 2 = 0 then k % 3 else k / 3)]) (lst (ak (tup (ak (dk_divN (ve 0) (de_nat (m := 3)) (by decide)) (ak (dk_modN (ve 0) (de_nat (m := 3)) (by decide))))) (ak (tup (ak (dk_modN (ve 0) (de_nat (m := 3)) (by decide)) (ak (dk_divN (ve 0) (de_nat (m := 3)) (by decide)))))))).toL (dk_mod (ve 1) de_int (by decide)).toE (by rw [atI2]; split <;> rfl)) (gtup (gcons (gn 3) (gcons (gn 4)))) ?_)
  refine dss_cons (ds_if (DW.toB (dw_and (db_eqN (ve 4) (ve 2)) fun _ => dw_and1 (db_neN (ve 3) (ve 2)))) (fun h => ?_) (fun h => dss_nil ?_))
  · rw [Bool.and_eq_true, decide_eq_true_eq, Bool.not_eq_true', decide_eq_false_iff_not] at h
    have hc : (if way % 2 = 0 then k / 3 else k % 3) ≤ 2 := by split <;> omega
    refine dss_one (ds_ret ((dk_sub (dk_subN (de_nat (m := 3)) (ve 2) (by omega)).toE (ve 3)).cast ?_) rfl)
    unfold beside
    dsimp only
    rw [if_pos h]
    show PyData.int _ = PyData.int _
    congr 1
    by_cases e : way % 2 = 0
    · simp only [if_pos e] at h ⊢
      omega
    · simp only [if_neg e] at h ⊢
      omega
  · refine dss_one (ds_ret ((v 3).cast ?_) rfl)
    unfold beside
    dsimp only
    rw [if_neg (c := _ ∧ _)]
    intro z
    rw [decide_eq_true z.1, decide_eq_false z.2] at h
    cases h
inductive φ__law_sign : List PyData → Rs → Prop
  | mk (R : Rule) (h : R.ok) (cs : List Nat) (hn : num R.s cs < R.t.length) : φ__law_sign [encR R, nL cs] (.k (nI (R.t.getD (num R.s cs) 0)))
abbrev s__law_sign : Stmt := topS 65
theorem sc__law_sign : FnScope ["_law_rule_here", "_law_cells", "_law_number", "_law_sign_here"] ["_law_rule_here", "_law_cells"] (defScope s__law_sign) := ⟨rfl, rfl, rfl, by decide +kernel, rfl, by decide +kernel, by decide +kernel⟩
theorem ok__law_sign (T : Txt K mg c) {f : Addr} {fd : FuncData} (F : Fun K "_law_sign" "_law_sign" s__law_sign f fd) : FnOk P w K mg base (L2.CX P w) 1 f fd ["_law_rule_here", "_law_cells"] (spD K φ__law_sign 2) := by
  refine def_ok F sc__law_sign rfl fun cdv A outer s H E hr xs o hφ hm => ?_
  have nd := sc__law_sign.nd
  cases hφ with
  | mk R h cs hn =>
  have hs4 := h.s4
  refine dss_cons (set 2 (dk_nat (m := 0)) ?_)
  refine dss_cons (ds_for cs nI [3] (fun pre ρ => ρ = [some (.d (encR R)), some (.d (nL cs)), some (.d (nI (num R.s pre))), none]) bX_po rfl (fun _ => rfl) (di_list (v 1)) rfl ?_ ?_)
  · intro pre a post ρ' hL hρ
    subst hρ
    refine ⟨_, _, gn 3 (js := [3]), dss_one (set 2 (dk_addN (dk_mulN (ve 2) (ixT (v 0) (de_int (q := 0))).toE (by omega)).toE (ve 3)) ?_)⟩
    show _ = _
    rw [num_snoc]
    rfl
  · intro ρ' h
    subst h
    exact dss_one (ds_ret (ixTn (ixT (v 0) (de_int (q := 2))) (ve 2) hn) rfl)
inductive φ__law_signs : List PyData → Rs → Prop
  | mk (l : List Nat) (hz : l.length ≤ 1000000) : φ__law_signs [nL l, nL l] (.k (.bool true))
abbrev s__law_signs : Stmt := topS 69
theorem sc__law_signs : FnScope ["_law_found", "_law_due", "_law_sign_here"] ["_law_found", "_law_due"] (defScope s__law_signs) := ⟨rfl, rfl, rfl, by decide +kernel, rfl, by decide +kernel, by decide +kernel⟩
theorem ok__law_signs (T : Txt K mg c) {f : Addr} {fd : FuncData} (F : Fun K "_law_signs" "_law_signs" s__law_signs f fd) : FnOk P w K mg base (L2.CX P w) 1 f fd ["_law_found", "_law_due"] (spD K φ__law_signs 2) := by
  refine def_ok F sc__law_signs rfl fun cdv A outer s H E hr xs o hφ hm => ?_
  have nd := sc__law_signs.nd
  cases hφ with
  | mk l hz =>
  refine dss_cons (ds_if (k := false) (DW.toB (dw_or (k := false) (k' := false) ((db_not (tb (isi "list" (ve 0) T.b_isinstance T.b_list (by exact kit_list _)).toE)).cast rfl) fun _ => dw_or1 ((db_neL hr (ve 0) (ve 1)).cast (by simp)))) (fun h => by cases h) (fun h => dss_nil ?_))
  refine dss_one (ds_ret ((dk_eqL hr (l := []) (l' := []) ((lc (own := [("_law_sign_here", 2)]) l nI (fun _ => false) nI (fun x => [some (.d (nL l)), some (.d (nL l)), some (.d (nI x))]) (di_list (v 0)) (by omega) (fun a _ _ _ _ _ _ => gn 2) (fun a _ _ _ _ _ _ => pts1 (tb (DK.toE (isi "bool" (ve 2) T.b_isinstance T.b_bool (by exact kit_bool _))))) (fun a _ h => by cases h)).cast (by simp)).toE (lst dak_nil).toE).cast (by simp)) rfl)
inductive φ__law_odd : List PyData → Rs → Prop
  | mk (R : Rule) (h : R.ok) (l : List Nat) (hz : l.length ≤ 10000) (cell : Nat) : φ__law_odd [encR R, nL l, nI cell] (.k (oddQ R l cell))
abbrev s__law_odd : Stmt := topS 70
theorem sc__law_odd : FnScope ["_law_rule_here", "_law_piece_here", "_law_cell", "_law_at", "_law_more"] ["_law_rule_here", "_law_piece_here", "_law_cell"] (defScope s__law_odd) := ⟨rfl, rfl, rfl, by decide +kernel, rfl, by decide +kernel, by decide +kernel⟩
theorem ok__law_odd (T : Txt K mg c) {f : Addr} {fd : FuncData} (F : Fun K "_law_odd" "_law_odd" s__law_odd f fd) : FnOk P w K mg base (L2.CX P w) 1 f fd ["_law_rule_here", "_law_piece_here", "_law_cell"] (spD K φ__law_odd 3) := by
  refine def_ok F sc__law_odd rfl fun cdv A outer s H E hr xs o hφ hm => ?_
  have nd := sc__law_odd.nd
  cases hφ with
  | mk R h l hz cell =>
  have s4 := h.s4
  refine dss_cons (set 3 (dk_modN (ve 2) ((dk_addN (lenL (ve 1) T.b_len).toE (de_nat (m := 1))).cast (y := nI (l.length + 1)) (by rw [List.length_map])).toE (by omega)) ?_)
  have hq8 : cell / 2 % 8 < (moresQ R.s (cell / 16 % 1000000000)).length := Nat.mod_lt _ (by decide : 0 < 8)
  have hq7 : cell / 3 % 7 < (othersP l).length := Nat.mod_lt _ (by decide : 0 < 7)
  refine dss_cons (set 4 (ixL (x := (moresQ R.s (cell / 16 % 1000000000)).getD (cell / 2 % 8) .none) ((lst (ak (dk_neg dk_int.toE) (ak (ixT (v 0) (de_int (q := 0))) (ak (dk_addN (ixT (v 0) (de_int (q := 0))).toE (DK.toE (dk_modN (m' := 1000000000) (dk_divN (ve 2) (de_nat (m := 16)) (by decide)).toE ((dk_pow (i := 10) (j := 9) de_int de_int ⟨by decide, by decide, by decide⟩).cast (by rfl)).toE (by decide)))) (ak (dk_bl) (ak (dk_non) (ak (dk_str) (ak ((lst (ak (dk_nat (m := 0)))).toK) (ak (dk_dict0)))))))))).toL.cast (show _ = moresQ R.s (cell / 16 % 1000000000) from rfl)) (dk_modN (dk_divN (ve 2) (de_nat (m := 2)) (by decide)).toE (de_nat (m := 8)) (by decide)).toE (by have := atI_map _ id _ .none hq8; rw [List.map_id] at this; exact this)) ?_)
  show DSs _ _ _ [some (.d (encR R)), some (.d (nL l)), some (.d (nI cell)), some (.d (nI (cell % (l.length + 1)))), some (.d ((moresQ R.s (cell / 16 % 1000000000)).getD (cell / 2 % 8) .none))] _
  have hat : cell % (l.length + 1) ≤ l.length := by have := Nat.mod_lt cell (show 0 < l.length + 1 by omega); omega
  have c1 : Dt.cutD (l.map nI) none (some ((cell % (l.length + 1) : Nat) : Int)) = (l.take (cell % (l.length + 1))).map nI := by
    rw [cutD_map, HT.sIx_nat]
    show ((l.drop 0).take (min _ _ - 0)).map nI = _
    rw [List.drop_zero, Nat.sub_zero, Nat.min_eq_left hat]
  have c2 : Dt.cutD (l.map nI) (some ((cell % (l.length + 1) : Nat) : Int)) none = (l.drop (cell % (l.length + 1))).map nI := by
    rw [cutD_map, HT.sIx_nat, Nat.min_eq_left hat]
    show ((l.drop _).take (l.length - _)).map nI = _
    rw [List.take_of_length_le (by rw [List.length_drop]; exact Nat.le_refl _)]
  have eo : oddQ R l cell = if 0 < cell % 3 then .list (((l.take (cell % (l.length + 1))).map nI) ++ [(moresQ R.s (cell / 16 % 1000000000)).getD (cell / 2 % 8) .none] ++ ((l.drop (cell % (l.length + 1))).map nI)) else (othersP l).getD (cell / 3 % 7) .none := rfl
  rw [eo]
  refine dss_cons (ds_if (db_gtN (m2 := 0) (dk_modN (ve 2) (de_nat (m := 3)) (by decide)).toE de_nat) (fun hq => ?_) (fun hq => dss_nil ?_))
  · rw [decide_eq_true_eq] at hq
    rw [if_pos hq]
    refine dss_one (ds_ret ((df_cat (df_cat ((sl (v 1).toL do_none (do_some (ve 3))).toL.cast c1) (lst (ak (v 4))).toL (by rw [sizeLine_eq, List.length_map, List.length_take]; show _ + 1 ≤ _; omega)).toL ((sl (v 1).toL (do_some (ve 3)) do_none).toL.cast c2) (by rw [sizeLine_eq, List.length_append, List.length_map, List.length_map, List.length_take, List.length_drop]; show _ + 1 + _ ≤ _; omega)).toK) rfl)
  · rw [decide_eq_false_iff_not] at hq
    rw [if_neg hq]
    exact dss_one (ds_ret (ixL (x := (othersP l).getD (cell / 3 % 7) .none) ((lst (ak (tupL (v 1).toL T.b_tuple) (ak (dk_str) (ak (dk_non) (ak (dk_dict0) (ak (dk_nat (m := 5)) (ak (tup (ak (dk_nat (m := 0)) (ak (dk_nat (m := 1))))) (ak (dk_bl))))))))).toL.cast (show _ = othersP l from rfl)) (dk_modN (dk_divN (ve 2) (de_nat (m := 3)) (by decide)).toE (de_nat (m := 7)) (by decide)).toE (by have := atI_map _ id _ .none hq7; rw [List.map_id] at this; exact this)) rfl)
inductive ψ__law_word (c : Cs) : Addr → PyData → Prop
  | row : ψ__law_word c c.BadRow (.str "row")
  | back : ψ__law_word c c.NoBack (.str "back")
abbrev s__law_word : Stmt := topS 71
theorem sc__law_word : FnScope ["_law_error", "_law_found"] ["_law_error"] (defScope s__law_word) := ⟨rfl, rfl, rfl, by decide +kernel, rfl, by decide +kernel, by decide +kernel⟩
theorem ok__law_word (T : Txt K mg c) {f : Addr} {fd : FuncData} (F : Fun K "_law_word" "_law_word" s__law_word f fd) : ∀ D d, ψ__law_word c D d → FnE P w K mg base 1 f fd ["_law_error"] D d := by
  intro D d hψ
  have nd := sc__law_word.nd
  have sc := sc__law_word
  cases hψ with
  | row =>
    refine fnE_of F sc rfl rfl fun cdv A outer s H q hz hf => ?_
    have eC := T.ec_BadRow
    have pin : (q.1, q.2) ∈ (L2H.cxH (L2.CX P w) P w K mg base ["_law_error", "_law_found"] "_law_word" (defScope s__law_word) f cdv A outer s H (fun _ _ _ => False) q).pn := List.mem_cons_self
    refine dss_cons (set 1 (dk_adds (dk_take (b0 := false) dk_str.toE (intB (isP pin eC hz hf T.b_isinstance T.x_BadRule.g T.ki_BadRow_BadRule 0).toE T.b_int).toE).toE (dk_take (b0 := false) dk_str.toE (intB (isP pin eC hz hf T.b_isinstance T.x_TooWide.g T.ki_BadRow_TooWide 0).toE T.b_int).toE).toE (by rw [sizeLine_eq]; decide +kernel)) ?_)
    refine dss_cons (set 1 (dk_adds (DK.toE (dk_adds (ve 1) (dk_take (b0 := true) dk_str.toE (intB (isP pin eC hz hf T.b_isinstance T.x_BadRow.g T.ki_BadRow_BadRow 0).toE T.b_int).toE).toE (by rw [sizeLine_eq]; decide +kernel))) (dk_take (b0 := false) dk_str.toE (intB (isP pin eC hz hf T.b_isinstance T.x_NoBack.g T.ki_BadRow_NoBack 0).toE T.b_int).toE).toE (by rw [sizeLine_eq]; decide +kernel)) ?_)
    refine dss_cons (set 1 (dk_adds (ve 1) (dk_take (b0 := false) dk_str.toE (intB (isP pin eC hz hf T.b_isinstance T.x_BadText.g T.ki_BadRow_BadText 0).toE T.b_int).toE).toE (by rw [sizeLine_eq]; decide +kernel)) ?_)
    exact dss_one (ds_ret ((ixL (DF.toL (lst (ak (v 1) (ak (dk_str))))) (intB (dk_not (isPV pin eC hz hf T.b_isinstance T.b_ValueError T.kv_BadRow 0).toE).toE T.b_int).toE (by rfl)).cast (congrArg PyData.str (by decide +kernel))) rfl)
  | back =>
    refine fnE_of F sc rfl rfl fun cdv A outer s H q hz hf => ?_
    have eC := T.ec_NoBack
    have pin : (q.1, q.2) ∈ (L2H.cxH (L2.CX P w) P w K mg base ["_law_error", "_law_found"] "_law_word" (defScope s__law_word) f cdv A outer s H (fun _ _ _ => False) q).pn := List.mem_cons_self
    refine dss_cons (set 1 (dk_adds (dk_take (b0 := false) dk_str.toE (intB (isP pin eC hz hf T.b_isinstance T.x_BadRule.g T.ki_NoBack_BadRule 0).toE T.b_int).toE).toE (dk_take (b0 := false) dk_str.toE (intB (isP pin eC hz hf T.b_isinstance T.x_TooWide.g T.ki_NoBack_TooWide 0).toE T.b_int).toE).toE (by rw [sizeLine_eq]; decide +kernel)) ?_)
    refine dss_cons (set 1 (dk_adds (DK.toE (dk_adds (ve 1) (dk_take (b0 := false) dk_str.toE (intB (isP pin eC hz hf T.b_isinstance T.x_BadRow.g T.ki_NoBack_BadRow 0).toE T.b_int).toE).toE (by rw [sizeLine_eq]; decide +kernel))) (dk_take (b0 := true) dk_str.toE (intB (isP pin eC hz hf T.b_isinstance T.x_NoBack.g T.ki_NoBack_NoBack 0).toE T.b_int).toE).toE (by rw [sizeLine_eq]; decide +kernel)) ?_)
    refine dss_cons (set 1 (dk_adds (ve 1) (dk_take (b0 := false) dk_str.toE (intB (isP pin eC hz hf T.b_isinstance T.x_BadText.g T.ki_NoBack_BadText 0).toE T.b_int).toE).toE (by rw [sizeLine_eq]; decide +kernel)) ?_)
    exact dss_one (ds_ret ((ixL (DF.toL (lst (ak (v 1) (ak (dk_str))))) (intB (dk_not (isPV pin eC hz hf T.b_isinstance T.b_ValueError T.kv_NoBack 0).toE).toE T.b_int).toE (by rfl)).cast (congrArg PyData.str (by decide +kernel))) rfl)
inductive φ__law_is_number : List PyData → Rs → Prop
  | mk (n : Nat) : φ__law_is_number [nI n] (.k (.bool true))
abbrev s__law_is_number : Stmt := topS 73
theorem sc__law_is_number : FnScope ["_law_found"] ["_law_found"] (defScope s__law_is_number) := ⟨rfl, rfl, rfl, by decide +kernel, rfl, by decide +kernel, by decide +kernel⟩
theorem ok__law_is_number (T : Txt K mg c) {f : Addr} {fd : FuncData} (F : Fun K "_law_is_number" "_law_is_number" s__law_is_number f fd) : FnOk P w K mg base (L2.CX P w) 1 f fd ["_law_found"] (spD K φ__law_is_number 1) := by
  refine def_ok F sc__law_is_number rfl fun cdv A outer s H E hr xs o hφ hm => ?_
  have nd := sc__law_is_number.nd
  cases hφ with
  | mk n =>
  exact dss_one (ds_ret (dk_and (k := true) (k' := true) (isi "int" (ve 0) T.b_isinstance T.b_int (by exact kit_int _)).toE fun _ => de_and (k := true) (k' := true) (DK.toE (dk_not (k := false) (isi "bool" (ve 0) T.b_isinstance T.b_bool (by exact kit_bool _)).toE)) fun _ => de_one (DE.cast (DK.toE (dk_ge (ve 0) (de_int (q := 0)))) (by simp))) rfl)
inductive φ_is_rule : List PyData → Rs → Prop
  | mk (x : PyData) : φ_is_rule [x] (.k (.bool (isRuleD x)))
abbrev s_is_rule : Stmt := topS 13
theorem sc_is_rule : FnScope ["thing", "signs", "wide", "table", "sign"] ["thing"] (defScope s_is_rule) := ⟨rfl, rfl, rfl, by decide +kernel, rfl, by decide +kernel, by decide +kernel⟩
theorem ok_is_rule (T : Txt K mg c) (g_is_among : GDef P w K mg base "is_among" 3 φ_is_among 1) (g_rows_of : GDef P w K mg base "rows_of" 2 φ_rows_of 1) {f : Addr} {fd : FuncData} (F : Fun K "is_rule" "is_rule" s_is_rule f fd) : FnOk P w K mg base (L2.CX P w) 2 f fd ["thing"] (spD K φ_is_rule 1) := by
  refine def_ok F sc_is_rule rfl fun cdv A outer s H E hr xs o hφ hm => ?_
  have nd := sc_is_rule.nd
  cases hφ with
  | mk x =>
  cases x with
  | tuple l =>
    refine dss_cons (ds_if (DW.toB (dw_or (db_not (tb (isi "tuple" (ve 0) T.b_isinstance T.b_tuple (by exact kit_tuple _)).toE)) fun _ => dw_or1 (db_neN (lenT (ve 0) T.b_len).toE de_nat))) (fun h => ?_) (fun h => dss_nil ?_))
    · have e : isRuleD (.tuple l) = false := by
        unfold isRuleD
        split
        · rename_i a b t hl
          cases hl
          exact absurd h (by simp [isTupD])
        · rfl
      rw [e]
      exact dss_one (ds_ret dk_bl rfl)
    · have hl : l.length = 3 := by simpa [isTupD] using h
      obtain ⟨a, b, t, rfl⟩ : ∃ a b t, l = [a, b, t] := by
        match l, hl with
        | [a, b, t], _ => exact ⟨a, b, t, rfl⟩
      refine dss_cons (setT (js := [1, 2, 3]) (v 0) (gtup (gcons (gn 1) (gcons (gn 2) (gcons (gn 3))))) ?_)
      refine dss_cons (ds_if (DW.toB (dw_or (db_not (tb (ce (g_is_among.at hr) (ae (ve 1) (ae de_int (ae (glob T.k_MOST_SIGNS).toE))) (.mk a 2 4)))) fun _ => dw_or (db_not (tb (ce (g_is_among.at hr) (ae (ve 2) (ae de_int (ae (glob T.k_MOST_WIDE).toE))) (.mk b 1 4)))) fun _ => dw_or1 (db_not (tb (isi "tuple" (ve 3) T.b_isinstance T.b_tuple (by exact kit_tuple _)).toE)))) (fun h => ?_) (fun h => dss_nil ?_))
      · have e : isRuleD (.tuple [a, b, t]) = false := by
          show (!(!among a 2 4 || (!among b 1 4 || !isTupD t)) && _) = false
          rw [h]
          rfl
        rw [e]
        exact dss_one (ds_ret dk_bl rfl)
      · have g1 : among a 2 4 = true := by cases q : among a 2 4 <;> simp [q] at h ⊢
        have g2 : among b 1 4 = true := by cases q : among b 1 4 <;> simp [q, g1] at h ⊢
        have g3 : isTupD t = true := by cases q : isTupD t <;> simp [q, g1, g2] at h ⊢
        obtain ⟨s, rfl, s1, s2⟩ := among_nat (lo := 2) g1
        obtain ⟨w, rfl, w1, w2⟩ := among_nat (lo := 1) g2
        have hs : s ≤ 1000 := by omega
        have hw : w ≤ 1000 := by omega
        cases t with
        | tuple ts =>
          have e : isRuleD (.tuple [nI s, nI w, .tuple ts]) = (!(decide (16 < s ^ w) || !decide (ts.length = s ^ w)) && ts.all fun x => among x 0 ((s : Int) - 1)) := by
            show (!(!among (nI s) 2 4 || (!among (nI w) 1 4 || !true)) && (!(decide (16 < ((s : Int)).toNat ^ ((w : Int)).toNat) || !decide (ts.length = ((s : Int)).toNat ^ ((w : Int)).toNat)) && ts.all fun x => among x 0 ((s : Int) - 1))) = _
            rw [Int.toNat_natCast, Int.toNat_natCast, g1, g2]
            rfl
          rw [e]
          clear e
          refine dss_cons (ds_if (DW.toB (dw_or (db_gtN (m1 := s ^ w) (m2 := 16) (ce (g_rows_of.at hr) (ae (ve 1) (ae (ve 2))) (.mk s w hs hw)) (glob T.k_MOST_ROWS).toE) fun _ => dw_or1 (db_neN (lenT (ve 3) T.b_len).toE (ce (g_rows_of.at hr) (ae (ve 1) (ae (ve 2))) (.mk s w hs hw))))) (fun h => ?_) (fun h => dss_nil ?_))
          · rw [h]
            exact dss_one (ds_ret dk_bl rfl)
          · rw [h]
            have hz : ts.length ≤ 16000000 := by
              have h5 : ts.length = s ^ w ∧ ¬ 16 < s ^ w := by simpa [and_comm] using h
              omega
            refine dss_one (ds_ret (((allL (ns := ts.map fun x => among x 0 ((s : Int) - 1)) ((lc1 (own := [("sign", 4)]) ts id (fun x => .bool (among x 0 ((s : Int) - 1))) (fun x => [some (.d (.tuple [nI s, nI w, .tuple ts])), some (.d (nI s)), some (.d (nI w)), some (.d (.tuple ts)), some (.d x)])
              (di_tup ((v 3).cast (by rw [List.map_id]))) hz (fun a _ _ _ _ _ _ => gn 4) (fun a _ _ _ _ _ _ => cs (g_is_among.at hr) (ae (ve 4) (ae de_int (ae (dk_sub (ve 1) de_int).toE))) (.mk a 0 _))).cast (by rw [List.map_map]; rfl)).toE T.b_all).cast (by rw [List.all_map]; rfl))) rfl)
        | _ => cases g3
  | _ =>
    refine dss_cons (ds_if (k := true) ?_ (fun h => ?_) (fun h => by cases h))
    · show DB _ _ _ (!false || false)
      exact DW.toB (dw_or (db_not (tb (isi "tuple" (ve 0) T.b_isinstance T.b_tuple (by exact kit_tuple _)).toE)) fun h => by cases h)
    exact dss_one (ds_ret dk_bl rfl)
inductive φ_told_by : List PyData → Rs → Prop
  | mk (R : Rule) (h : R.ok) (l : List Nat) (hl : ∀ x ∈ l, x < R.s) (hz : l.length ≤ 1000000) (hm : R.w - 1 ≤ l.length) : φ_told_by [encR R, nL l] (.f ((on R l).map nI))
abbrev s_told_by : Stmt := topS 20
theorem sc_told_by : FnScope ["rule", "cells", "found", "place"] ["rule", "cells"] (defScope s_told_by) := ⟨rfl, rfl, rfl, by decide +kernel, rfl, by decide +kernel, by decide +kernel⟩
theorem ok_told_by (T : Txt K mg c) (g_number_of : GDef P w K mg base "number_of" 2 φ_number_of 1) {f : Addr} {fd : FuncData} (F : Fun K "told_by" "told_by" s_told_by f fd) : FnOk P w K mg base (L2.CX P w) 2 f fd ["rule", "cells"] (spD K φ_told_by 2) := by
  refine def_ok F sc_told_by rfl fun cdv A outer s H E hr xs o hφ hm => ?_
  have nd := sc_told_by.nd
  cases hφ with
  | mk R h l hl hz hm2 =>
  have w1 := h.w1
  refine dss_cons (setF 2 (df_lst dak_nil (Nat.zero_le _)) ?_)
  refine dss_cons (ds_for (List.range (l.length + 1 - R.w)) nI [3] (fun pre ρ => ρ = [some (.d (encR R)), some (.d (nL l)), some (.l ((pre.map fun p => R.t.getD (num R.s ((l.drop p).take R.w)) 0).map nI)), none]) bX_po rfl (fun _ => rfl)
    (di_rangeN T.b_range ((dk_add (dk_sub (lenL (ve 1) T.b_len).toE (ixT (v 0) (de_int (q := 1))).toE).toE (de_int (q := 1))).cast (by show PyData.int _ = PyData.int _; rw [List.length_map]; congr 1; omega)).toE (by omega)) rfl ?_ ?_)
  · intro pre a post ρ' hL hρ
    subst hρ
    have ha : a < l.length + 1 - R.w := List.mem_range.mp (by rw [hL]; simp)
    have hpre : pre.length ≤ l.length + 1 := by
      have := congrArg List.length hL
      rw [List.length_range, List.length_append, List.length_cons] at this
      omega
    refine ⟨_, _, gn 3 (js := [3]), dss_one (app 2 (ixTn (ixT (v 0) (de_int (q := 2))) (cs (g_number_of.at hr) (ae (ixT (v 0) (de_int (q := 0))).toE (ae (((sl (v 1).toL (do_some (ve 3)) (do_some (dk_addN (ve 3) (ixT (v 0) (de_int (q := 1))).toE).toE)).cast (cutD_nn l nI a R.w (by omega))).toE))) (.mk R.s _ (by have := h.s4; omega))).toE (win_lt h hl (by omega))) ?_ ?_)⟩
    · rw [List.length_map, List.length_map]
      exact Nat.lt_of_le_of_lt hpre (by rw [sizeLine_eq]; omega)
    · show _ = _
      rw [List.map_append, List.map_append]
      rfl
  · intro ρ' h
    subst h
    exact dss_one (retO 2 rfl)
inductive φ_steps_of : List PyData → Rs → Prop
  | mk (R : Rule) (h : R.ok) (e sg : Nat) (he : e < manyE R) : φ_steps_of [encR R, nI e, nI sg] (.f ((stepsN R e sg).map encS))
abbrev s_steps_of : Stmt := topS 25
theorem sc_steps_of : FnScope ["rule", "end", "sign", "found", "cell", "number"] ["rule", "end", "sign"] (defScope s_steps_of) := ⟨rfl, rfl, rfl, by decide +kernel, rfl, by decide +kernel, by decide +kernel⟩
theorem ok_steps_of (T : Txt K mg c) (g_rows_of : GDef P w K mg base "rows_of" 2 φ_rows_of 1) {f : Addr} {fd : FuncData} (F : Fun K "steps_of" "steps_of" s_steps_of f fd) : FnOk P w K mg base (L2.CX P w) 2 f fd ["rule", "end", "sign"] (spD K φ_steps_of 3) := by
  refine def_ok F sc_steps_of rfl fun cdv A outer s H E hr xs o hφ hm => ?_
  have nd := sc_steps_of.nd
  cases hφ with
  | mk R h e sg he =>
  have w1 := h.w1
  have w4 := h.w4
  have s4 := h.s4
  have mp := manyE_pos h
  refine dss_cons (setF 3 (lst dak_nil) ?_)
  refine dss_cons (ds_for (List.range R.s) nI [4, 5] (fun pre ρ => ρ = [some (.d (encR R)), some (.d (nI e)), some (.d (nI sg)), some (.l (((pre.filter fun c => decide (R.t.getD (e * R.s + c) 0 = sg)).map fun c => (c, (e * R.s + c) % manyE R)).map encS)), none, none]) bX_po rfl (fun _ => rfl) (di_rangeN T.b_range (ixT (v 0) (de_int (q := 0))).toE (by omega)) rfl ?_ ?_)
  · intro pre a post ρ' hL hρ
    subst hρ
    have ha : a < R.s := List.mem_range.mp (by rw [hL]; simp)
    have hpre : pre.length ≤ 4 := by
      have := congrArg List.length hL
      rw [List.length_range, List.length_append, List.length_cons] at this
      omega
    refine ⟨_, _, gn 4 (js := [4, 5]), dss_cons (set 5 (dk_addN (dk_mulN (ve 1) (ixT (v 0) (de_int (q := 0))).toE (.inr (by omega))).toE (ve 4)) ?_)⟩
    refine dss_one (ds_if (db_eqN (ixTn (ixT (v 0) (de_int (q := 2))) (ve 5) (step_lt h he ha)).toE (ve 2)) (fun hq => ?_) (fun hq => dss_nil ?_))
    · refine dss_one (app 3 (tup (ak (v 4) (ak (dk_modN (ve 5) (ce (g_rows_of.at hr) (ae ((ixT (v 0) (de_int (q := 0))).toE) (ae ((dk_subN (m' := 1) (ixT (v 0) (de_int (q := 1))).toE de_nat w1).toE))) (.mk R.s (R.w - 1) (by omega) (by omega))) mp)))) ?_ ?_)
      · rw [List.length_map, List.length_map]
        have := List.length_filter_le (fun c => decide (R.t.getD (e * R.s + c) 0 = sg)) pre
        rw [sizeLine_eq]
        omega
      · show _ = _
        rw [List.filter_append, List.map_append, List.map_append, List.filter_cons, if_pos hq]
        rfl
    · show _ = _
      rw [List.filter_append, List.filter_cons, if_neg (by rw [hq]; exact Bool.false_ne_true), List.filter_nil, List.append_nil]
      rfl
  · intro ρ' hp
    subst hp
    exact dss_one (retO 3 rfl)
inductive φ_pairs_on : List PyData → Rs → Prop
  | mk (R : Rule) (h : R.ok) (p : Pr) (hp : okP R p) : φ_pairs_on [encR R, encP p] (.f ((pairsN R p).map encT3))
abbrev s_pairs_on : Stmt := topS 29
theorem sc_pairs_on : FnScope ["rule", "pair", "found", "most", "one", "other", "first", "second"] ["rule", "pair"] (defScope s_pairs_on) := ⟨rfl, rfl, rfl, by decide +kernel, rfl, by decide +kernel, by decide +kernel⟩
theorem ok_pairs_on (T : Txt K mg c) (g_rows_of : GDef P w K mg base "rows_of" 2 φ_rows_of 1) {f : Addr} {fd : FuncData} (F : Fun K "pairs_on" "pairs_on" s_pairs_on f fd) : FnOk P w K mg base (L2.CX P w) 2 f fd ["rule", "pair"] (spD K φ_pairs_on 2) := by
  refine def_ok F sc_pairs_on rfl fun cdv A outer s H E hr xs o hφ hm => ?_
  have nd := sc_pairs_on.nd
  cases hφ with
  | mk R h p hp =>
  obtain ⟨p1, p2⟩ := p
  obtain ⟨hp1, hp2⟩ := hp
  have w1 := h.w1
  have w4 := h.w4
  have s4 := h.s4
  have mp := manyE_pos h
  have hp1 : p1 < manyE R := hp1
  have hp2 : p2 < manyE R := hp2
  refine dss_cons (setF 2 (lst dak_nil) ?_)
  refine dss_cons (set 3 (cs (g_rows_of.at hr) (ae ((ixT (v 0) (de_int (q := 0))).toE) (ae ((dk_subN (m' := 1) (ixT (v 0) (de_int (q := 1))).toE de_nat w1).toE))) (.mk R.s (R.w - 1) (by omega) (by omega))) ?_)
  refine dss_cons (ds_for (List.range R.s) nI [4, 5, 6, 7] (fun pre ρ => ρ = [some (.d (encR R)), some (.d (encP (p1, p2))), some (.l ((pre.flatMap (pairsA R (p1, p2))).map encT3)), some (.d (nI (manyE R))), none, none, none, none]) bX_po rfl (fun _ => rfl) (di_rangeN T.b_range (ixT (v 0) (de_int (q := 0))).toE (by omega)) rfl ?_ ?_)
  · intro pre a post ρ' hL hρ
    subst hρ
    have ha : a < R.s := List.mem_range.mp (by rw [hL]; simp)
    have hpl : pre.length ≤ 4 := by
      have := congrArg List.length hL
      rw [List.length_range, List.length_append] at this
      omega
    have fl := pairsA_flat R (p1, p2) pre
    have fl2 : pre.length * R.s ≤ 4 * 4 := Nat.mul_le_mul hpl s4
    refine ⟨_, _, gn 4 (js := [4, 5, 6, 7]), dss_one (ds_for (List.range R.s) nI [5, 6, 7] (fun pb ρ => ρ = [some (.d (encR R)), some (.d (encP (p1, p2))), some (.l ((pre.flatMap (pairsA R (p1, p2)) ++ (pb.filter fun b => decide (outE R p1 a = outE R p2 b)).map fun b => (nxW R (p1, p2) (a, b), (a, b))).map encT3)), some (.d (nI (manyE R))), some (.d (nI a)), none, none, none]) bX_po rfl (fun _ => rfl) (di_rangeN T.b_range (ixT (v 0) (de_int (q := 0))).toE (by omega)) (by show _ = _; simp; rfl) ?_ ?_)⟩
    · intro pb b pq ρ' hL2 hρ
      subst hρ
      have hb : b < R.s := List.mem_range.mp (by rw [hL2]; simp)
      have hpb : pb.length ≤ 4 := by
        have := congrArg List.length hL2
        rw [List.length_range, List.length_append] at this
        omega
      refine ⟨_, _, gn 5 (js := [5, 6, 7]), ?_⟩
      refine dss_cons (set 6 (dk_addN (DK.toE (dk_mulN (DK.toE (ixT (x := nI p1) (v 1) (de_int (q := 0)))) (ixT (v 0) (de_int (q := 0))).toE (.inr (by omega)))) (ve 4)) ?_)
      refine dss_cons (set 7 (dk_addN (DK.toE (dk_mulN (DK.toE (ixT (x := nI p2) (v 1) (de_int (q := 1)))) (ixT (v 0) (de_int (q := 0))).toE (.inr (by omega)))) (ve 5)) ?_)
      refine dss_one (ds_if (db_eqN (ixTn (ixT (v 0) (de_int (q := 2))) (ve 6) (step_lt h hp1 ha)).toE (ixTn (ixT (v 0) (de_int (q := 2))) (ve 7) (step_lt h hp2 hb)).toE) (fun hq => ?_) (fun hq => dss_nil ?_))
      · refine dss_one (app 2 (x := encT3 (nxW R (p1, p2) (a, b), (a, b))) (tup (ak (tup (ak (dk_modN (ve 6) (ve 3) mp) (ak (dk_modN (ve 7) (ve 3) mp)))) (ak (v 4) (ak (v 5))))) ?_ ?_)
        · rw [List.length_map, List.length_append, List.length_map, sizeLine_eq]
          have := List.length_filter_le (fun b => decide (outE R p1 a = outE R p2 b)) pb
          omega
        · have e : (pre.flatMap (pairsA R (p1, p2)) ++ ((pb ++ [b]).filter fun b => decide (outE R p1 a = outE R p2 b)).map fun b => (nxW R (p1, p2) (a, b), (a, b))).map encT3 = (pre.flatMap (pairsA R (p1, p2)) ++ (pb.filter fun b => decide (outE R p1 a = outE R p2 b)).map fun b => (nxW R (p1, p2) (a, b), (a, b))).map encT3 ++ [encT3 (nxW R (p1, p2) (a, b), (a, b))] := by
            rw [List.filter_append, List.filter_cons, if_pos (show decide (outE R p1 a = outE R p2 b) = true from hq), List.filter_nil]
            simp only [List.map_append, List.map_cons, List.map_nil, List.append_assoc]
          rw [e]
          rfl
      · show _ = _
        rw [List.filter_append, List.filter_cons, if_neg (show ¬ decide (outE R p1 a = outE R p2 b) = true by show ¬ decide (R.t.getD _ 0 = R.t.getD _ 0) = true; rw [hq]; exact Bool.false_ne_true), List.filter_nil, List.append_nil]
        rfl
    · intro ρ' hp
      subst hp
      show _ = _
      rw [List.flatMap_append, List.flatMap_cons, List.flatMap_nil, List.append_nil]
      rfl
  · intro ρ' hp
    subst hp
    exact dss_one (retO 2 rfl)
inductive φ_all_pairs : List PyData → Rs → Prop
  | mk (R : Rule) (h : R.ok) : φ_all_pairs [encR R] (.f ((allP R).map encP))
abbrev s_all_pairs : Stmt := topS 30
theorem sc_all_pairs : FnScope ["rule", "most", "number"] ["rule"] (defScope s_all_pairs) := ⟨rfl, rfl, rfl, by decide +kernel, rfl, by decide +kernel, by decide +kernel⟩
theorem ok_all_pairs (T : Txt K mg c) (g_rows_of : GDef P w K mg base "rows_of" 2 φ_rows_of 1) {f : Addr} {fd : FuncData} (F : Fun K "all_pairs" "all_pairs" s_all_pairs f fd) : FnOk P w K mg base (L2.CX P w) 2 f fd ["rule"] (spD K φ_all_pairs 1) := by
  refine def_ok F sc_all_pairs rfl fun cdv A outer s H E hr xs o hφ hm => ?_
  have nd := sc_all_pairs.nd
  cases hφ with
  | mk R h =>
  have w1 := h.w1
  have w4 := h.w4
  have s4 := h.s4
  have mp := manyE_pos h
  have ml := manyE_le h
  have sq := sq64 h
  refine dss_cons (set 1 (cs (g_rows_of.at hr) (ae ((ixT (v 0) (de_int (q := 0))).toE) (ae ((dk_subN (m' := 1) (ixT (v 0) (de_int (q := 1))).toE de_nat w1).toE))) (.mk R.s (R.w - 1) (by omega) (by omega))) ?_)
  refine dss_one (ds_retF ((lc1 (own := [("number", 2)]) (List.range (manyE R * manyE R)) nI (fun q => encP (q / manyE R, q % manyE R)) (fun q => [some (.d (encR R)), some (.d (nI (manyE R))), some (.d (nI q))]) (di_rangeN T.b_range (DK.toE (dk_mulN (m := manyE R) (m' := manyE R) (ve 1) (ve 1) (.inl (by omega)))) (by omega)) (by rw [List.length_range]; omega) (fun q _ _ _ _ _ _ => gn 2) (fun q _ _ _ _ _ _ => tup (ak (dk_divN (m := q) (m' := manyE R) (ve 2) (ve 1) ⟨mp, by omega⟩) (ak (dk_modN (m := q) (m' := manyE R) (ve 2) (ve 1) mp)))))) ?_)
  show Rs.f _ = Rs.f _
  unfold allP
  rw [List.map_map]
  rfl
inductive φ_like_pairs : List PyData → Rs → Prop
  | mk (R : Rule) (h : R.ok) : φ_like_pairs [encR R] (.f ((diagP R).map encP))
abbrev s_like_pairs : Stmt := topS 32
theorem sc_like_pairs : FnScope ["rule", "end"] ["rule"] (defScope s_like_pairs) := ⟨rfl, rfl, rfl, by decide +kernel, rfl, by decide +kernel, by decide +kernel⟩
theorem ok_like_pairs (T : Txt K mg c) (g_rows_of : GDef P w K mg base "rows_of" 2 φ_rows_of 1) {f : Addr} {fd : FuncData} (F : Fun K "like_pairs" "like_pairs" s_like_pairs f fd) : FnOk P w K mg base (L2.CX P w) 2 f fd ["rule"] (spD K φ_like_pairs 1) := by
  refine def_ok F sc_like_pairs rfl fun cdv A outer s H E hr xs o hφ hm => ?_
  have nd := sc_like_pairs.nd
  cases hφ with
  | mk R h =>
  have w1 := h.w1
  have w4 := h.w4
  have s4 := h.s4
  have ml := manyE_le h
  refine dss_one (ds_retF ((lc1 (own := [("end", 1)]) (List.range (manyE R)) nI (fun q => encP (q, q)) (fun q => [some (.d (encR R)), some (.d (nI q))]) (di_rangeN T.b_range (ce (g_rows_of.at hr) (ae ((ixT (v 0) (de_int (q := 0))).toE) (ae ((dk_subN (m' := 1) (ixT (v 0) (de_int (q := 1))).toE de_nat w1).toE))) (.mk R.s (R.w - 1) (by omega) (by omega))) (show R.s ^ (R.w - 1) < 2 ^ 62 by unfold manyE at ml; omega)) (by rw [List.length_range]; omega) (fun q _ _ _ _ _ _ => gn 1) (fun q _ _ _ _ _ _ => tup (ak (v 1) (ak (v 1)))))) ?_)
  show Rs.f _ = Rs.f _
  unfold diagP
  rw [List.map_map]
  rfl
inductive φ_way_from : List PyData → Rs → Prop
  | mk (R : Rule) (h : R.ok) (s : Pr) (hs : okP R s) (G : List Pr) : φ_way_from [stepsD R, encP s, .list (G.map encP)] (wayR R s G)
abbrev s_way_from : Stmt := topS 34
theorem sc_way_from : FnScope ["steps", "start", "goals", "came", "waiting", "fresh", "one", "other", "pair"] ["steps", "start", "goals"] (defScope s_way_from) := ⟨rfl, rfl, rfl, by decide +kernel, rfl, by decide +kernel, by decide +kernel⟩
theorem ok_way_from (T : Txt K mg c) (g_way_back : GDef P w K mg base "way_back" 2 φ_way_back 1) {f : Addr} {fd : FuncData} (F : Fun K "way_from" "way_from" s_way_from f fd) : FnOk P w K mg base (L2.CX P w) 2 f fd ["steps", "start", "goals"] (spD K φ_way_from 3) := by
  refine def_ok F sc_way_from rfl fun cdv A outer s H E hr xs o hφ hm => ?_
  have nd := sc_way_from.nd
  cases hφ with
  | mk R h s hs G =>
  have s4 := h.s4
  have ss : R.s * R.s ≤ 16 := Nat.mul_le_mul s4 s4
  let m0 : List (Pr × Pr) → List EW := fun pre => ((pre.filter fun t => decide (t.2.1 ≠ t.2.2)).map fun t => (t.1, [t.2])).foldl bPut []
  refine dss_cons (newT 3 false ?_)
  refine dss_cons (setF 4 (lst dak_nil) ?_)
  refine dss_cons (ds_for (pairsN R s) encT3 [5, 6, 7] (fun pre ρ => ρ = [some (.d (stepsD R)), some (.d (encP s)), some (.d (.list (G.map encP))), some (.t false (encQ (cameL R s (m0 pre)))), some (.l (waitW (m0 pre) 0)), none, none, none, none]) bX_po rfl (fun _ => rfl) (di_list (dk_ixD hr (DK.toM (v 0)) (ve 1) (look_steps h hs))) rfl ?_ ?_)
  · rintro pre t post ρ' hL rfl
    obtain ⟨q, c⟩ := t
    obtain ⟨a, b⟩ := c
    have hpl : (pairsN R s).length ≤ 16 := Nat.le_trans (pairsN_len R s) ss
    have hml : (m0 pre).length ≤ 16 := by
      have h1 : ∀ l m : List EW, (l.foldl bPut m).length ≤ m.length + l.length := by
        intro l
        induction l with
        | nil => intro m; exact Nat.le_refl _
        | cons x l ih =>
          intro m
          have := ih (bPut m x)
          have h2 : (bPut m x).length ≤ m.length + 1 := by
            unfold bPut
            split
            · omega
            · simp
          rw [List.foldl_cons, List.length_cons]
          omega
      have h3 : (m0 pre).length ≤ 0 + ((pre.filter fun t => decide (t.2.1 ≠ t.2.2)).map fun t => (t.1, [t.2])).length := h1 ((pre.filter fun t => decide (t.2.1 ≠ t.2.2)).map fun t => (t.1, [t.2])) []
      rw [List.length_map] at h3
      have h4 := List.length_filter_le (fun t : Pr × Pr => decide (t.2.1 ≠ t.2.2)) pre
      have h5 := congrArg List.length hL
      rw [List.length_append] at h5
      omega
    have hsn : m0 (pre ++ [(q, (a, b))]) = if a ≠ b then bPut (m0 pre) (q, [(a, b)]) else m0 pre := by
      show List.foldl _ _ _ = _
      rw [List.filter_append, List.map_append, List.foldl_append]
      by_cases hab : a = b
      · rw [if_neg (by simp [hab]), List.filter_cons, if_neg (by simp [hab])]
        rfl
      · rw [if_pos hab, List.filter_cons, if_pos (by simp [hab])]
        rfl
    rw [hsn]
    generalize m0 pre = m at hml
    have key : ((!decide (a = b)) && !(lookT (encQ (cameL R s m)) (keyN (lP q))).isSome) = (decide (a ≠ b) && !decide (q ∈ bKeys m)) := by
      rw [lookT_some]
      by_cases hm2 : q ∈ bKeys m
      · rw [decide_eq_true hm2, decide_eq_true ((cameL_keys R s m q).mpr hm2)]; simp
      · rw [decide_eq_false hm2, decide_eq_false fun z => hm2 ((cameL_keys R s m q).mp z)]; simp
    refine ⟨_, _, gtup (js := [5, 6, 7]) (gcons (gn 5) (gcons (gn 6) (gcons (gn 7)))), ?_⟩
    refine dss_one (ds_if (DB.cast (DW.toB (dw_and (db_neN (ve 6) (ve 7)) fun _ => dw_and1 (db_ninM hr (ve 5) (vm 3)))) key) (fun hq => ?_) (fun hq => dss_nil ?_))
    · simp only [Bool.and_eq_true, decide_eq_true_eq, Bool.not_eq_true', decide_eq_false_iff_not] at hq
      obtain ⟨hab, hnk⟩ := hq
      have hb : bPut m (q, [(a, b)]) = m ++ [(q, [(a, b)])] := by unfold bPut; rw [if_neg hnk]
      rw [if_pos hab, hb]
      refine dss_cons (putT 3 (kvs := encQ (cameL R s m)) (l := lP q) (x := cameV R s [(a, b)]) hr (DK.toV (tup (ak (dk_non) (ak (v 6) (ak (v 7)))))) (ve 5) (by rw [encQ_len]; unfold cameL; rw [List.length_map]; omega) ?_)
      rw [putD_new (fun z => hnk ((cameL_keys R s m q).mp z))]
      refine dss_one (app 4 (xs := waitW m 0) (x := encP q) (v 5) (by rw [List.length_map, List.length_drop, sizeLine_eq]; omega) ?_)
      show _ = _
      rw [waitW_snoc (Nat.zero_le _)]
      unfold cameL
      rw [List.map_append]
      rfl
    · have hq2 : (if a ≠ b then bPut m (q, [(a, b)]) else m) = m := by
        by_cases hab : a = b
        · rw [if_neg (by simp [hab])]
        · rw [if_pos hab]
          unfold bPut
          have : q ∈ bKeys m := by simpa [hab] using hq
          rw [if_pos this]
      rw [hq2]
      rfl
  rintro ρ' rfl
  have e0 : m0 (pairsN R s) = runW R s 0 := rfl
  rw [e0]
  refine dss_cons (ds_while (fun k ρ => ∃ i, k = 70 - i ∧ i ≤ (runW R s i).length ∧ (∀ j e, j < i → (runW R s i)[j]? = some e → e.1 ∉ G) ∧ ∃ x8, ρ = [some (.d (stepsD R)), some (.d (encP s)), some (.d (.list (G.map encP))), some (.t false (encQ (cameL R s (runW R s i)))), some (.l (waitW (runW R s i) i)), none, none, none, x8]) 70 bX_po ⟨0, rfl, Nat.zero_le _, fun j e hj => by omega, none, rfl⟩ ?_)
  rintro k ρ' ⟨i, rfl, hi, hno, x8, rfl⟩
  have l64 := runW_len h s i
  refine ⟨decide (i < (runW R s i).length), DB.cast (db_neD hr (vle 4) (lst dak_nil).toE (shp_list (k := 1) (fun x hx => by obtain ⟨e, _, rfl⟩ := List.mem_map.mp hx; exact shp_nT (k := 0))).ok (shp_list (k := 0) (by simp)).ok) ?_, fun hk => ?_, fun hk => ?_⟩
  · rw [eqv_list, eqvAll_nil]
    by_cases hq : i < (runW R s i).length
    · rw [decide_eq_true hq, decide_eq_false (by rw [List.map_eq_nil_iff, List.drop_eq_nil_iff]; omega)]; rfl
    · rw [decide_eq_false hq, decide_eq_true (by rw [List.map_eq_nil_iff, List.drop_eq_nil_iff]; omega)]; rfl
  · have hil : i < (runW R s i).length := of_decide_eq_true hk
    have ei : (runW R s i)[i]? = some (runW R s i)[i] := List.getElem?_eq_getElem hil
    generalize (runW R s i)[i] = e at ei
    have hem := List.mem_of_getElem? ei
    have hent := runW_ent R s i e hem
    have hpl := runW_plen R s i e hem
    have heok := ent_ok h hent
    rw [waitW_cons ei]
    refine dss_cons (popL0 8 4 (x := encP e.1) (xs := waitW (runW R s i) (i + 1)) ?_ (by decide))
    refine dss_cons (ds_if ((db_inD hr (by with_unfolding_all rfl) (ve 8) (ve 2) (shp_nT (k := 0)).ok (shp_list (shp_encPs G)).ok).cast (in_encPs G e.1)) (fun hg => ?_) (fun hg => dss_nil ?_))
    · have hg : e.1 ∈ G := of_decide_eq_true hg
      have hfin : wayN' R s G = some e.2 := by
        unfold wayN'
        have : (finW R s).find? (fun e => decide (e.1 ∈ G)) = some e := by
          refine find_at (i := i) ?_ (decide_eq_true hg) fun j y hj hy => ?_
          · rw [← pre_at (runW_finpre h s i) hil]; exact ei
          · rw [← pre_at (runW_finpre h s i) (by omega)] at hy
            exact decide_eq_false (hno j y hj hy)
        rw [this]
        rfl
      unfold wayR
      rw [hfin]
      refine dss_freezeT 3 rfl ?_
      exact dss_one (ds_retF (cf (g_way_back.at hr) (ak (v 3) (ak (v 8))) (.mk R s (runW R s i) (runW_nodup R s i) (runW_prev i) (runW_ent R s i) e hem (by omega))) rfl)
    · have hg : e.1 ∉ G := of_decide_eq_false hg
      let m1 : List (Pr × Pr) → List EW := fun pre => (pre.map fun t => (t.1, e.2 ++ [t.2])).foldl bPut (runW R s i)
      refine dss_one (ds_for (pairsN R e.1) encT3 [5, 6, 7] (fun pre ρ => ρ = [some (.d (stepsD R)), some (.d (encP s)), some (.d (.list (G.map encP))), some (.t false (encQ (cameL R s (m1 pre)))), some (.l (waitW (m1 pre) (i + 1))), none, none, none, some (.d (encP e.1))]) bX_po rfl (fun _ => rfl) (di_list (dk_ixD hr (DK.toM (v 0)) (ve 8) (look_steps h heok))) rfl ?_ ?_)
      · rintro pre t post ρ' hL rfl
        obtain ⟨q, c⟩ := t
        obtain ⟨a, b⟩ := c
        have hpre : m1 pre <+: runW R s (i + 1) := by
          rw [runW_step ei]
          unfold scW
          rw [hL, List.map_append, List.foldl_append]
          exact bFold_pre _ _
        have hgl : (runW R s i).length ≤ (m1 pre).length := (bFold_pre _ _).length_le
        have hsn : m1 (pre ++ [(q, (a, b))]) = bPut (m1 pre) (q, e.2 ++ [(a, b)]) := by
          show List.foldl _ _ _ = _
          rw [List.map_append, List.foldl_append]
          rfl
        rw [hsn]
        have hml := hpre.length_le
        have l65 := runW_len h s (i + 1)
        generalize m1 pre = m at hml hgl
        refine ⟨_, _, gtup (js := [5, 6, 7]) (gcons (gn 5) (gcons (gn 6) (gcons (gn 7)))), ?_⟩
        refine dss_one (ds_if (db_ninM hr (ve 5) (vm 3)) (fun hq => ?_) (fun hq => dss_nil ?_))
        · rw [lookT_some] at hq
          have hnk : q ∉ bKeys m := fun z => by
            rw [decide_eq_true ((cameL_keys R s m q).mpr z)] at hq
            cases hq
          have hb : bPut m (q, e.2 ++ [(a, b)]) = m ++ [(q, e.2 ++ [(a, b)])] := by unfold bPut; rw [if_neg hnk]
          rw [hb]
          have hcv : cameV R s (e.2 ++ [(a, b)]) = .tuple [encP e.1, nI a, nI b] := by
            unfold cameV prevD
            have e1 : ¬ (e.2 ++ [(a, b)]).length = 1 := by
              rw [List.length_append, List.length_singleton]
              have := ent_ne hent
              rw [← List.length_pos_iff] at this
              omega
            have e2 : (e.2 ++ [(a, b)]).dropLast = e.2 := by simp
            have e3 : (e.2 ++ [(a, b)]).getLastD (0, 0) = (a, b) := by simp
            rw [if_neg e1, e2, e3, hent.2.2]
          refine dss_cons (putT 3 (kvs := encQ (cameL R s m)) (l := lP q) (x := cameV R s (e.2 ++ [(a, b)])) hr (DV.cast (DK.toV (tup (ak (v 8) (ak (v 6) (ak (v 7)))))) hcv.symm) (ve 5) (by rw [encQ_len]; unfold cameL; rw [List.length_map]; omega) ?_)
          rw [putD_new (fun z => hnk ((cameL_keys R s m q).mp z))]
          refine dss_one (app 4 (xs := waitW m (i + 1)) (x := encP q) (v 5) (by rw [List.length_map, List.length_drop, sizeLine_eq]; omega) ?_)
          show _ = _
          rw [waitW_snoc (by omega)]
          unfold cameL
          rw [List.map_append]
          rfl
        · rw [lookT_some] at hq
          have hnk : q ∈ bKeys m := by
            by_cases z : q ∈ bKeys m
            · exact z
            · rw [decide_eq_false fun y => z ((cameL_keys R s m q).mp y)] at hq
              cases hq
          have hb : bPut m (q, e.2 ++ [(a, b)]) = m := by unfold bPut; rw [if_pos hnk]
          rw [hb]
          rfl
      · rintro ρ' rfl
        have hrun : m1 (pairsN R e.1) = runW R s (i + 1) := (runW_step ei).symm
        rw [hrun]
        have hlen : (runW R s i).length ≤ (runW R s (i + 1)).length := (runW_pre' (Nat.le_succ i)).length_le
        refine ⟨70 - (i + 1), by omega, i + 1, rfl, by omega, fun j x hj hx => ?_, _, rfl⟩
        by_cases hji : j = i
        · subst hji
          have : (runW R s (j + 1))[j]? = some e := by rw [← pre_at (runW_pre' (Nat.le_succ j)) hil]; exact ei
          rw [this] at hx
          cases hx
          exact hg
        · refine hno j x (by omega) ?_
          rw [pre_at (runW_pre' (Nat.le_succ i)) (by omega)]
          exact hx
  · have hil : ¬ i < (runW R s i).length := of_decide_eq_false hk
    have hfin : wayN' R s G = none := by
      unfold wayN'
      rw [Option.map_eq_none_iff, List.find?_eq_none]
      intro e he
      rw [runW_fin h (i := i) (by omega)] at he
      obtain ⟨j, hj, rfl⟩ := List.getElem_of_mem he
      have := hno j _ (by omega) (List.getElem?_eq_getElem hj)
      simpa using this
    unfold wayR
    rw [hfin]
    exact dss_one (ds_ret dk_non rfl)
inductive φ_first_ends : List PyData → Rs → Prop
  | mk (R : Rule) (h : R.ok) : φ_first_ends [encR R] (.k (nT (List.range (manyE R))))
abbrev s_first_ends : Stmt := topS 51
theorem sc_first_ends : FnScope ["rule"] ["rule"] (defScope s_first_ends) := ⟨rfl, rfl, rfl, by decide +kernel, rfl, by decide +kernel, by decide +kernel⟩
theorem ok_first_ends (T : Txt K mg c) (g_rows_of : GDef P w K mg base "rows_of" 2 φ_rows_of 1) {f : Addr} {fd : FuncData} (F : Fun K "first_ends" "first_ends" s_first_ends f fd) : FnOk P w K mg base (L2.CX P w) 2 f fd ["rule"] (spD K φ_first_ends 1) := by
  refine def_ok F sc_first_ends rfl fun cdv A outer s H E hr xs o hφ hm => ?_
  have nd := sc_first_ends.nd
  cases hφ with
  | mk R h =>
  have w1 := h.w1
  have w4 := h.w4
  have s4 := h.s4
  have ml := manyE_le h
  exact dss_one (ds_ret (tupRg (ce (g_rows_of.at hr) (ae ((ixT (v 0) (de_int (q := 0))).toE) (ae ((dk_subN (m' := 1) (ixT (v 0) (de_int (q := 1))).toE de_nat w1).toE))) (.mk R.s (R.w - 1) (by omega) (by omega))) (show R.s ^ (R.w - 1) ≤ 1000000 by unfold manyE at ml; omega) T.b_tuple T.b_range) rfl)
inductive φ__law_random : List PyData → Rs → Prop
  | mk (s rows : Nat) (more : Int) (h1 : 0 < s) (h2 : rows ≤ 1000) : φ__law_random [nI s, nI rows, .int more] (.k (nT (randomT s rows more)))
abbrev s__law_random : Stmt := topS 59
theorem sc__law_random : FnScope ["_law_signs_here", "_law_rows", "_law_more", "_law_k"] ["_law_signs_here", "_law_rows", "_law_more"] (defScope s__law_random) := ⟨rfl, rfl, rfl, by decide +kernel, rfl, by decide +kernel, by decide +kernel⟩
theorem ok__law_random (T : Txt K mg c) (g__law_mixed : GDef P w K mg base "_law_mixed" 2 φ__law_mixed 1) {f : Addr} {fd : FuncData} (F : Fun K "_law_random" "_law_random" s__law_random f fd) : FnOk P w K mg base (L2.CX P w) 2 f fd ["_law_signs_here", "_law_rows", "_law_more"] (spD K φ__law_random 3) := by
  refine def_ok F sc__law_random rfl fun cdv A outer s H E hr xs o hφ hm => ?_
  have nd := sc__law_random.nd
  cases hφ with
  | mk sg rows more h1 h2 =>
  refine dss_one (ds_ret ((tupL ((lc1 (own := [("_law_k", 3)]) (List.range rows) nI (fun k => nI (mixed more k % sg)) (fun k => [some (.d (nI sg)), some (.d (nI rows)), some (.d (.int more)), some (.d (nI k))]) (di_rangeN T.b_range (ve 1) (by omega)) (by rw [List.length_range]; omega)
    (fun a _ _ _ _ _ _ => gn 3) (fun a ha _ _ _ _ _ => dk_modN (ce (g__law_mixed.at hr) (ae (ve 2) (ae (ve 3))) (.mk more a (by have := List.mem_range.mp ha; omega))) (ve 0) h1))).toL T.b_tuple).cast ?_) rfl)
  rw [map_nI]
  rfl
inductive φ__law_mending : List PyData → Rs → Prop
  | mk (s rows : Nat) (more : Int) (h1 : 0 < s) (h2 : rows ≤ 1000) (h3 : s ≤ rows) : φ__law_mending [nI s, nI rows, .int more] (.k (nT (mendingT s rows more)))
abbrev s__law_mending : Stmt := topS 60
theorem sc__law_mending : FnScope ["_law_signs_here", "_law_rows", "_law_more", "_law_few", "_law_k"] ["_law_signs_here", "_law_rows", "_law_more"] (defScope s__law_mending) := ⟨rfl, rfl, rfl, by decide +kernel, rfl, by decide +kernel, by decide +kernel⟩
theorem ok__law_mending (T : Txt K mg c) (g__law_mixed : GDef P w K mg base "_law_mixed" 2 φ__law_mixed 1) {f : Addr} {fd : FuncData} (F : Fun K "_law_mending" "_law_mending" s__law_mending f fd) : FnOk P w K mg base (L2.CX P w) 2 f fd ["_law_signs_here", "_law_rows", "_law_more"] (spD K φ__law_mending 3) := by
  refine def_ok F sc__law_mending rfl fun cdv A outer s H E hr xs o hφ hm => ?_
  have nd := sc__law_mending.nd
  cases hφ with
  | mk sg rows more h1 h2 h3 =>
  have hf : 0 < rows / sg := Nat.div_pos h3 h1
  have hf2 : rows / sg ≤ rows := Nat.div_le_self _ _
  refine dss_cons (set 3 (dk_divN (ve 1) (ve 0) ⟨h1, by omega⟩) ?_)
  refine dss_cons (ds_if (db_eqI (dk_mod (ve 2) de_int (by decide)).toE de_int) (fun h => ?_) (fun h => dss_nil ?_))
  · rw [decide_eq_true_eq] at h
    refine dss_one (ds_ret ((tupL ((lc1 (own := [("_law_k", 4)]) (List.range rows) nI (fun k => nI ((k % sg + mixed more (k / sg)) % sg)) (fun k => [some (.d (nI sg)), some (.d (nI rows)), some (.d (.int more)), some (.d (nI (rows / sg))), some (.d (nI k))]) (di_rangeN T.b_range (ve 1) (by omega)) (by rw [List.length_range]; omega)
      (fun a _ _ _ _ _ _ => gn 4) (fun a ha _ _ _ _ _ => dk_modN (dk_addN (dk_modN (ve 4) (ve 0) h1).toE (ce (g__law_mixed.at hr) (ae (ve 2) (ae (dk_divN (ve 4) (ve 0) ⟨h1, by omega⟩).toE)) (.mk more (a / sg) (by have := List.mem_range.mp ha; have := Nat.div_le_self a sg; omega)))).toE (ve 0) h1))).toL T.b_tuple).cast ?_) rfl)
    unfold mendingT
    rw [if_pos h, map_nI]
  · rw [decide_eq_false_iff_not] at h
    refine dss_one (ds_ret ((tupL ((lc1 (own := [("_law_k", 4)]) (List.range rows) nI (fun k => nI ((k / (rows / sg) + mixed more (k % (rows / sg))) % sg)) (fun k => [some (.d (nI sg)), some (.d (nI rows)), some (.d (.int more)), some (.d (nI (rows / sg))), some (.d (nI k))]) (di_rangeN T.b_range (ve 1) (by omega)) (by rw [List.length_range]; omega)
      (fun a _ _ _ _ _ _ => gn 4) (fun a ha _ _ _ _ _ => dk_modN (dk_addN (dk_divN (ve 4) (ve 3) ⟨hf, by omega⟩).toE (ce (g__law_mixed.at hr) (ae (ve 2) (ae (dk_modN (ve 4) (ve 3) hf).toE)) (.mk more (a % (rows / sg)) (by have := Nat.mod_lt a hf; omega)))).toE (ve 0) h1))).toL T.b_tuple).cast ?_) rfl)
    unfold mendingT
    rw [if_neg h, map_nI]
inductive φ__law_turned : List PyData → Rs → Prop
  | mk (s wd rows : Nat) (more : Int) (h2 : 2 ≤ s) (h4 : s ≤ 4) (h1 : 1 ≤ wd) (h5 : wd ≤ 4) (hz : rows ≤ 1000) : φ__law_turned [nI s, nI wd, nI rows, .int more] (.k (nT (turnedT s wd rows more)))
abbrev s__law_turned : Stmt := topS 63
theorem sc__law_turned : FnScope ["_law_signs_here", "_law_wide", "_law_rows", "_law_more", "_law_order", "_law_step", "_law_k"] ["_law_signs_here", "_law_wide", "_law_rows", "_law_more"] (defScope s__law_turned) := ⟨rfl, rfl, rfl, by decide +kernel, rfl, by decide +kernel, by decide +kernel⟩
theorem ok__law_turned (T : Txt K mg c) (g__law_beside : GDef P w K mg base "_law_beside" 2 φ__law_beside 1) (g__law_between : GDef P w K mg base "_law_between" 2 φ__law_between 1) {f : Addr} {fd : FuncData} (F : Fun K "_law_turned" "_law_turned" s__law_turned f fd) : FnOk P w K mg base (L2.CX P w) 2 f fd ["_law_signs_here", "_law_wide", "_law_rows", "_law_more"] (spD K φ__law_turned 4) := by
  refine def_ok F sc__law_turned rfl fun cdv A outer s H E hr xs o hφ hm => ?_
  have nd := sc__law_turned.nd
  cases hφ with
  | mk sg wd rows more h2 h4 h1 h5 hz =>
  have h64 := Int.emod_two_eq (more / 64)
  have bas : sg < 2 ^ 63 := by omega
  refine dss_cons (setF 4 ((lc1 (own := [("_law_k", 6)]) (List.range sg) nI (fun k => nI ((more / 4 + (k : Int) * (if more / 64 % 2 = 0 then 1 else (sg : Int) - 1)) % (sg : Int)).toNat) (fun k => [some (.d (nI sg)), some (.d (nI wd)), some (.d (nI rows)), some (.d (.int more)), none, none, some (.d (nI k))]) (di_rangeN T.b_range (ve 0) (by omega)) (by rw [List.length_range]; omega)
    (fun a _ _ _ _ _ _ => gn 6) (fun a ha _ _ _ _ _ => dk_modZ (dk_add (dk_div (ve 3) de_int (by decide)).toE (dk_mul (ve 6) (ixL (x := .int (if more / 64 % 2 = 0 then 1 else (sg : Int) - 1)) (lst (ak dk_int (ak (dk_sub (ve 0) de_int)))).toL (dk_mod (dk_div (ve 3) de_int (by decide)).toE de_int (by decide)).toE (by rw [atI2]; split <;> rfl)).toE (by have := List.mem_range.mp ha; unfold CMul; omega)).toE).toE (ve 0) (by omega))).cast (show _ = (orderT sg more).map nI from map_nI _ _)) ?_)
  have ol : (orderT sg more).length = sg := by simp [orderT]
  refine dss_cons (ds_if (DW.toB (dw_and (db_eqN (m2 := 4) (ve 0) de_nat) fun _ => dw_and (db_eqN (m2 := 2) (ve 1) de_nat) fun _ => dw_and1 (db_gt (dk_mod (ve 3) de_int (by decide)).toE de_int))) (fun h => ?_) (fun h => dss_nil ?_))
  · have h : sg = 4 ∧ wd = 2 ∧ 0 < more % 4 := by simpa using h
    refine dss_one (ds_ret ((tupL ((lc1 (own := [("_law_k", 6)]) (List.range 16) nI (fun k => nI ((orderT sg more).getD (k / 8 * 2 + k % 2) 0)) (fun k => [some (.d (nI sg)), some (.d (nI wd)), some (.d (nI rows)), some (.d (.int more)), some (.l ((orderT sg more).map nI)), none, some (.d (nI k))]) (di_rangeN T.b_range de_nat (by omega)) (by rw [List.length_range]; omega)
      (fun a _ _ _ _ _ _ => gn 6) (fun a ha _ _ _ _ _ => ixLn (vl 4) (dk_addN (dk_mulN (dk_divN (ve 6) (de_nat (m := 8)) (by decide)).toE (de_nat (m := 2)) (.inr (by decide))).toE (dk_modN (ve 6) (de_nat (m := 2)) (by decide)).toE).toE (by have := List.mem_range.mp ha; omega)))).toL T.b_tuple).cast ?_) rfl)
    unfold turnedT
    rw [if_pos h, map_nI]
  have n1 : ¬ (sg = 4 ∧ wd = 2 ∧ 0 < more % 4) := fun z => by simp [z.1, z.2.1, z.2.2] at h
  clear h
  refine dss_cons (ds_if (DW.toB (dw_and (db_eqN (m2 := 3) (ve 0) de_nat) fun _ => dw_and (db_eqN (m2 := 2) (ve 1) de_nat) fun _ => dw_and1 (db_gt (dk_mod (ve 3) de_int (by decide)).toE de_int))) (fun h => ?_) (fun h => dss_nil ?_))
  · have h : sg = 3 ∧ wd = 2 ∧ 0 < more % 4 := by simpa using h
    refine dss_one (ds_ret ((tupL ((lc1 (own := [("_law_k", 6)]) (List.range 9) nI (fun k => nI ((orderT sg more).getD (beside k (more / 256)) 0)) (fun k => [some (.d (nI sg)), some (.d (nI wd)), some (.d (nI rows)), some (.d (.int more)), some (.l ((orderT sg more).map nI)), none, some (.d (nI k))]) (di_rangeN T.b_range de_nat (by omega)) (by rw [List.length_range]; omega)
      (fun a _ _ _ _ _ _ => gn 6) (fun a ha _ _ _ _ _ => ixLn (vl 4) (ce (g__law_beside.at hr) (ae (ve 6) (ae (dk_div (ve 3) de_int (by decide)).toE)) (.mk a _ (List.mem_range.mp ha))) (by have := beside_lt (way := more / 256) (List.mem_range.mp ha); omega)))).toL T.b_tuple).cast ?_) rfl)
    unfold turnedT
    rw [if_neg n1, if_pos h, map_nI]
  have n2 : ¬ (sg = 3 ∧ wd = 2 ∧ 0 < more % 4) := fun z => by simp [z.1, z.2.1, z.2.2] at h
  clear h
  refine dss_cons (ds_if (DW.toB (dw_and (db_eqN (m2 := 2) (ve 0) de_nat) fun _ => dw_and (db_eqN (m2 := 4) (ve 1) de_nat) fun _ => dw_and1 (db_gt (dk_mod (ve 3) de_int (by decide)).toE de_int))) (fun h => ?_) (fun h => dss_nil ?_))
  · have h : sg = 2 ∧ wd = 4 ∧ 0 < more % 4 := by simpa using h
    refine dss_one (ds_ret ((tupL ((lc1 (own := [("_law_k", 6)]) (List.range 16) nI (fun k => nI ((orderT sg more).getD (between k (more / 256)) 0)) (fun k => [some (.d (nI sg)), some (.d (nI wd)), some (.d (nI rows)), some (.d (.int more)), some (.l ((orderT sg more).map nI)), none, some (.d (nI k))]) (di_rangeN T.b_range de_nat (by omega)) (by rw [List.length_range]; omega)
      (fun a _ _ _ _ _ _ => gn 6) (fun a ha _ _ _ _ _ => ixLn (vl 4) (ce (g__law_between.at hr) (ae (ve 6) (ae (dk_div (ve 3) de_int (by decide)).toE)) (.mk a _)) (by have : between a (more / 256) < 2 := Nat.mod_lt _ (by decide); omega)))).toL T.b_tuple).cast ?_) rfl)
    unfold turnedT
    rw [if_neg n1, if_neg n2, if_pos h, map_nI]
  have n3 : ¬ (sg = 2 ∧ wd = 4 ∧ 0 < more % 4) := fun z => by simp [z.1, z.2.1, z.2.2] at h
  clear h
  have st0 : 0 < stepT sg wd more ∧ stepT sg wd more < 1073741824 := by
    have a1 := Int.emod_lt_of_pos (more / 16) (show (0 : Int) < wd by omega)
    have a2 := Int.emod_nonneg (more / 16) (show (wd : Int) ≠ 0 by omega)
    have a3 : (more / 16 % (wd : Int)).toNat < 4 := by omega
    have b1 : sg * sg ≤ 16 := by have := Nat.mul_le_mul h4 h4; omega
    have b2 : sg * sg * sg ≤ 64 := by have := Nat.mul_le_mul b1 h4; omega
    have b3 : 0 < sg * sg := Nat.mul_pos (by omega) (by omega)
    have b4 : 0 < sg * sg * sg := Nat.mul_pos b3 (by omega)
    unfold stepT
    generalize (more / 16 % (wd : Int)).toNat = q at a3
    match q, a3 with
    | 0, _ => exact ⟨Nat.one_pos, by show 1 < 1073741824; decide⟩
    | 1, _ => exact ⟨by show 0 < sg; omega, by show sg < _; omega⟩
    | 2, _ => exact ⟨b3, by show sg * sg < _; omega⟩
    | 3, _ => exact ⟨b4, by show sg * sg * sg < _; omega⟩
  refine dss_cons (set 5 (ixL (x := nI (stepT sg wd more)) ((lst (ak (dk_nat (m := 1)) (ak (v 0) (ak (dk_mulN (ve 0) (ve 0) (.inl bas)) (ak (dk_mulN (dk_mulN (ve 0) (ve 0) (.inl bas)).toE (ve 0) (.inr bas))))))).toL) (dk_mod (dk_div (ve 3) de_int (by decide)).toE (ve 1) (by omega)).toE ?_) ?_)
  · refine atI_menu [1, sg, sg * sg, sg * sg * sg] nI _ 0 (Int.emod_nonneg _ (by omega)) ?_
    have a1 := Int.emod_lt_of_pos (more / 16) (show (0 : Int) < wd by omega)
    show _ < (4 : Int)
    omega
  refine dss_one (ds_ret ((tupL ((lc1 (own := [("_law_k", 6)]) (List.range rows) nI (fun k => nI ((orderT sg more).getD (k / stepT sg wd more % sg) 0)) (fun k => [some (.d (nI sg)), some (.d (nI wd)), some (.d (nI rows)), some (.d (.int more)), some (.l ((orderT sg more).map nI)), some (.d (nI (stepT sg wd more))), some (.d (nI k))]) (di_rangeN T.b_range (ve 2) (by omega)) (by rw [List.length_range]; omega)
      (fun a _ _ _ _ _ _ => gn 6) (fun a ha _ _ _ _ _ => ixLn (vl 4) (dk_modN (dk_divN (ve 6) (ve 5) st0).toE (ve 0) (by omega)).toE (by have := Nat.mod_lt (a / stepT sg wd more) (show 0 < sg by omega); omega)))).toL T.b_tuple).cast ?_) rfl)
  unfold turnedT
  rw [if_neg n1, if_neg n2, if_neg n3, map_nI]
inductive φ__law_on : List PyData → Rs → Prop
  | mk (R : Rule) (h : R.ok) (l : List Nat) (hl : ∀ x ∈ l, x < R.s) (hz : l.length ≤ 1000000) (hm : R.w - 1 ≤ l.length) : φ__law_on [encR R, nL l] (.f ((on R l).map nI))
abbrev s__law_on : Stmt := topS 66
theorem sc__law_on : FnScope ["_law_rule_here", "_law_cells", "_law_k"] ["_law_rule_here", "_law_cells"] (defScope s__law_on) := ⟨rfl, rfl, rfl, by decide +kernel, rfl, by decide +kernel, by decide +kernel⟩
theorem ok__law_on (T : Txt K mg c) (g__law_sign : GDef P w K mg base "_law_sign" 2 φ__law_sign 1) {f : Addr} {fd : FuncData} (F : Fun K "_law_on" "_law_on" s__law_on f fd) : FnOk P w K mg base (L2.CX P w) 2 f fd ["_law_rule_here", "_law_cells"] (spD K φ__law_on 2) := by
  refine def_ok F sc__law_on rfl fun cdv A outer s H E hr xs o hφ hm => ?_
  have nd := sc__law_on.nd
  cases hφ with
  | mk R h l hl hz hm2 =>
  have w1 := h.w1
  refine dss_one (ds_retF ((lc1 (own := [("_law_k", 2)]) (List.range (l.length + 1 - R.w)) nI (fun p => nI (R.t.getD (num R.s ((l.drop p).take R.w)) 0)) (fun p => [some (.d (encR R)), some (.d (nL l)), some (.d (nI p))])
    (di_rangeN T.b_range ((dk_add (dk_sub (lenL (ve 1) T.b_len).toE (ixT (v 0) (de_int (q := 1))).toE).toE (de_int (q := 1))).cast (by show PyData.int _ = PyData.int _; rw [List.length_map]; congr 1; omega)).toE (by omega)) (by rw [List.length_range]; omega) (fun a _ _ _ _ _ _ => gn 2)
    (fun a ha _ _ _ _ _ => cs (g__law_sign.at hr) (ae (ve 0) (ae (((sl (v 1).toL (do_some (ve 2)) (do_some (dk_addN (ve 2) (ixT (v 0) (de_int (q := 1))).toE).toE)).cast (cutD_nn l nI a R.w (by have := List.mem_range.mp ha; omega))).toE))) (.mk R h _ (win_lt h hl (by have := List.mem_range.mp ha; omega)))))) ?_)
  show _ = _
  rw [map_nI]
  rfl
inductive φ__law_piece : List PyData → Rs → Prop
  | mk (R : Rule) (h : R.ok) (c : Int) (n : Nat) (hz : n ≤ 1000000) : φ__law_piece [encR R, .int c, nI n] (.f ((pieceOf R.s c n).map nI))
abbrev s__law_piece : Stmt := topS 68
theorem sc__law_piece : FnScope ["_law_rule_here", "_law_cell", "_law_size", "_law_k"] ["_law_rule_here", "_law_cell", "_law_size"] (defScope s__law_piece) := ⟨rfl, rfl, rfl, by decide +kernel, rfl, by decide +kernel, by decide +kernel⟩
theorem ok__law_piece (T : Txt K mg c) (g__law_mixed : GDef P w K mg base "_law_mixed" 2 φ__law_mixed 1) {f : Addr} {fd : FuncData} (F : Fun K "_law_piece" "_law_piece" s__law_piece f fd) : FnOk P w K mg base (L2.CX P w) 2 f fd ["_law_rule_here", "_law_cell", "_law_size"] (spD K φ__law_piece 3) := by
  refine def_ok F sc__law_piece rfl fun cdv A outer s H E hr xs o hφ hm => ?_
  have nd := sc__law_piece.nd
  cases hφ with
  | mk R h cell n hz =>
  have s2 := h.s2
  refine dss_one (ds_retF ((lc1 (own := [("_law_k", 3)]) (List.range n) nI (fun k => nI (mixed cell k / 3 % R.s)) (fun k => [some (.d (encR R)), some (.d (.int cell)), some (.d (nI n)), some (.d (nI k))])
    (di_rangeN T.b_range (ve 2) (by omega)) (by rw [List.length_range]; omega) (fun a _ _ _ _ _ _ => gn 3)
    (fun a ha _ _ _ _ _ => dk_modN (dk_divN (ce (g__law_mixed.at hr) (ae (ve 1) (ae (ve 3))) (.mk cell a (by have := List.mem_range.mp ha; omega))) (de_nat (m := 3)) (by decide)).toE (ixT (v 0) (de_int (q := 0))).toE (by omega)))) ?_)
  show _ = _
  rw [map_nI]
  rfl
inductive φ_need_rule (c : Cs) : List PyData → Rs → Prop
  | mk (x : PyData) (h : isRuleD x = true) : φ_need_rule c [x] (.k .none)
  | bad (x : PyData) (h : isRuleD x = false) : φ_need_rule c [x] (.raise c.BadRule)
abbrev s_need_rule : Stmt := topS 14
theorem sc_need_rule : FnScope ["thing"] ["thing"] (defScope s_need_rule) := ⟨rfl, rfl, rfl, by decide +kernel, rfl, by decide +kernel, by decide +kernel⟩
theorem ok_need_rule (T : Txt K mg c) (g_is_rule : GDef P w K mg base "is_rule" 1 φ_is_rule 2) {f : Addr} {fd : FuncData} (F : Fun K "need_rule" "need_rule" s_need_rule f fd) : FnOk P w K mg base (L2.CX P w) 3 f fd ["thing"] (spD K (φ_need_rule c) 1) := by
  refine def_ok F sc_need_rule rfl fun cdv A outer s H E hr xs o hφ hm => ?_
  have nd := sc_need_rule.nd
  cases hφ with
  | mk x h =>
    exact dss_one (ds_if (db_not (tb (ce (g_is_rule.at hr) (ae (ve 0)) (.mk x)))) (fun h2 => by rw [h] at h2; cases h2) (fun _ => dss_nil rfl))
  | bad x h =>
    exact dss_one (ds_if (db_not (tb (ce (g_is_rule.at hr) (ae (ve 0)) (.mk x)))) (fun h2 => dss_one (raise T.x_BadRule bX_takes rfl)) (fun h2 => by rw [h] at h2; cases h2))
inductive φ_leading_on : List PyData → Rs → Prop
  | mk (R : Rule) (h : R.ok) (l : List Nat) (hz : l.length ≤ 1000000) : φ_leading_on [encR R, nL l] (.f ((leadN R l).map nL))
abbrev s_leading_on : Stmt := topS 26
theorem sc_leading_on : FnScope ["rule", "piece", "rows", "sign", "good", "end", "one"] ["rule", "piece"] (defScope s_leading_on) := ⟨rfl, rfl, rfl, by decide +kernel, rfl, by decide +kernel, by decide +kernel⟩
theorem ok_leading_on (T : Txt K mg c) (g_rows_of : GDef P w K mg base "rows_of" 2 φ_rows_of 1) (g_steps_of : GDef P w K mg base "steps_of" 3 φ_steps_of 2) {f : Addr} {fd : FuncData} (F : Fun K "leading_on" "leading_on" s_leading_on f fd) : FnOk P w K mg base (L2.CX P w) 3 f fd ["rule", "piece"] (spD K φ_leading_on 2) := by
  refine def_ok F sc_leading_on rfl fun cdv A outer s H E hr xs o hφ hm => ?_
  have nd := sc_leading_on.nd
  cases hφ with
  | mk R h l hz =>
  have ml := manyE_le h
  have w1 := h.w1
  have w4 := h.w4
  have s4 := h.s4
  have inN : ∀ (prev : List Nat) (o : Nat), ((prev.map nI).any fun z => PyData.eqv z (nI o)) = decide (o ∈ prev) := fun prev o => by
    induction prev with
    | nil => rfl
    | cons a r ih =>
      rw [List.map_cons, List.any_cons, ih, eqv_nI]
      by_cases h1 : a = o <;> by_cases h2 : o ∈ r <;> simp [h1, h2, eq_comm]
      exact fun z => h1 z.symm
  refine dss_cons (setF 2 (lst (ak ((listRg (ce (g_rows_of.at hr) (ae ((ixT (v 0) (de_int (q := 0))).toE) (ae ((dk_subN (m' := 1) (ixT (v 0) (de_int (q := 1))).toE de_nat w1).toE))) (.mk R.s (R.w - 1) (by omega) (by omega))) (show R.s ^ (R.w - 1) ≤ 1000000 by unfold manyE at ml; omega) T.b_list T.b_range).toK))) ?_)
  refine dss_cons (ds_for l.reverse nI [3, 4, 5, 6] (fun pre ρ => ρ = [some (.d (encR R)), some (.d (nL l)), some (.l ((leadN R pre.reverse).reverse.map nL)), none, none, none, none]) bX_po rfl (fun _ => rfl) (di_list (DF.toK ((df_rev (v 1).toL).cast (by rw [← List.map_reverse])))) rfl ?_ ?_)
  · intro pre a post ρ' hL hρ
    subst hρ
    have hpl : pre.length ≤ 1000000 := by
      have := congrArg List.length hL
      rw [List.length_reverse, List.length_append] at this
      omega
    have pl : ∀ e ∈ (leadN R pre.reverse).headD [], e < manyE R := by
      intro e he
      cases q : leadN R pre.reverse with
      | nil => rw [q] at he; cases he
      | cons x y => rw [q] at he; exact leadN_lt R pre.reverse x (by rw [q]; simp) e he
    have hlast : L2.atI ((leadN R pre.reverse).reverse.map nL) (-1) = some (nL ((leadN R pre.reverse).headD [])) := by
      have hne := leadN_len R pre.reverse
      cases q : leadN R pre.reverse with
      | nil => rw [q] at hne; simp at hne
      | cons x y =>
        rw [List.reverse_cons, List.map_append]
        exact atI_last _ _
    refine ⟨_, _, gn 3 (js := [3, 4, 5, 6]), dss_cons (setF 4 (lst dak_nil) ?_)⟩
    generalize hrows : (leadN R pre.reverse).reverse.map nL = rows at hlast
    have hrl : rows.length ≤ 1000001 := by rw [← hrows, List.length_map, List.length_reverse, leadN_len, List.length_reverse]; omega
    refine dss_cons (ds_for (List.range (manyE R)) nI [5, 6] (fun pr ρ => ρ = [some (.d (encR R)), some (.d (nL l)), some (.l rows), some (.d (nI a)), some (.l ((pr.filter fun e => (stepsN R e a).any fun p => decide (p.2 ∈ (leadN R pre.reverse).headD [])).map nI)), none, none]) bX_po rfl (fun _ => rfl) (di_rangeN T.b_range (ce (g_rows_of.at hr) (ae ((ixT (v 0) (de_int (q := 0))).toE) (ae ((dk_subN (m' := 1) (ixT (v 0) (de_int (q := 1))).toE de_nat w1).toE))) (.mk R.s (R.w - 1) (by omega) (by omega))) (show R.s ^ (R.w - 1) < 2 ^ 62 by unfold manyE at ml; omega)) rfl ?_ ?_)
    · intro pr b po ρ' hL2 hρ
      subst hρ
      have hb : b < manyE R := List.mem_range.mp (by rw [hL2]; simp)
      have hpr : pr.length ≤ 8 := by
        have := congrArg List.length hL2
        rw [List.length_range, List.length_append] at this
        omega
      refine ⟨_, _, gn 5 (js := [5, 6]), dss_one (ds_if (k := (stepsN R b a).any fun p => decide (p.2 ∈ (leadN R pre.reverse).headD [])) ((db_neD hr (lc (own := [("one", 6)]) (stepsN R b a) encS (fun p => decide (p.2 ∈ (leadN R pre.reverse).headD [])) encS (fun p => [some (.d (encR R)), some (.d (nL l)), some (.l rows), some (.d (nI a)), some (.l ((pr.filter fun e => (stepsN R e a).any fun p => decide (p.2 ∈ (leadN R pre.reverse).headD [])).map nI)), some (.d (nI b)), some (.d (encS p))]) (di_list (DF.toK (cf (g_steps_of.at hr) (ak (v 0) (ak (v 5) (ak (v 3)))) (.mk R h b a hb)))) (by have := stepsN_len R b a; omega) (fun p _ _ _ _ _ _ => gn 6) (fun p _ _ _ _ _ _ => pts1 (DB.cast (db_inD hr (by with_unfolding_all rfl) (DK.toE (ixT (xs := [nI p.1, nI p.2]) (v 6) (de_int (q := 1)))) (DK.toE (ixL (x := nL ((leadN R pre.reverse).headD [])) (vl 2) (DK.toE (dk_neg de_int)) hlast)) (shp_int (k := 0)).ok (shp_nL (k := 0)).ok) (inN _ _))) (fun p _ _ _ _ _ _ _ => v 6)).toE (lst dak_nil).toE (shp_list (k := 1) (fun x hx => by
        obtain ⟨q, _, rfl⟩ := List.mem_map.mp hx
        exact shp_tuple (k := 0) fun y hy => by
          have hy : y = nI q.1 ∨ y = nI q.2 := by simpa using hy
          rcases hy with rfl | rfl <;> exact shp_int)).ok (shp_list (k := 0) (xs := []) (fun x hx => by cases hx)).ok).cast ?_) (fun hq => ?_) (fun hq => dss_nil ?_))⟩
      · rw [eqv_list, eqvAll_nil, Bool.eq_iff_iff]
        simp [List.filter_eq_nil_iff]
      · refine dss_one (app 4 (xs := (pr.filter fun e => (stepsN R e a).any fun p => decide (p.2 ∈ (leadN R pre.reverse).headD [])).map nI) (v 5) ?_ ?_)
        · rw [List.length_map]
          have := List.length_filter_le (fun e => (stepsN R e a).any fun p => decide (p.2 ∈ (leadN R pre.reverse).headD [])) pr
          rw [sizeLine_eq]
          omega
        · show _ = _
          rw [List.filter_append, List.filter_cons, if_pos hq, List.map_append]
          rfl
      · show _ = _
        rw [List.filter_append, List.filter_cons, if_neg (by rw [hq]; exact Bool.false_ne_true), List.filter_nil, List.append_nil]
        rfl
    · intro ρ' hp
      subst hp
      refine dss_freeze 4 rfl ?_
      refine dss_one (app 2 (xs := rows) (v 4) (by rw [sizeLine_eq]; omega) ?_)
      show _ = _
      rw [List.reverse_append, List.reverse_singleton, List.singleton_append, leadN, List.reverse_cons, List.map_append, hrows]
      rfl
  · intro ρ' hp
    subst hp
    refine dss_one (ds_retF (df_rev (vl 2)) ?_)
    show _ = _
    rw [List.reverse_reverse, ← List.map_reverse, List.reverse_reverse]
inductive φ_all_steps : List PyData → Rs → Prop
  | mk (R : Rule) (h : R.ok) : φ_all_steps [encR R] (.k (stepsD R))
abbrev s_all_steps : Stmt := topS 31
theorem sc_all_steps : FnScope ["rule", "pair"] ["rule"] (defScope s_all_steps) := ⟨rfl, rfl, rfl, by decide +kernel, rfl, by decide +kernel, by decide +kernel⟩
theorem ok_all_steps (T : Txt K mg c) (g_pairs_on : GDef P w K mg base "pairs_on" 2 φ_pairs_on 2) (g_all_pairs : GDef P w K mg base "all_pairs" 1 φ_all_pairs 2) {f : Addr} {fd : FuncData} (F : Fun K "all_steps" "all_steps" s_all_steps f fd) : FnOk P w K mg base (L2.CX P w) 3 f fd ["rule"] (spD K φ_all_steps 1) := by
  refine def_ok F sc_all_steps rfl fun cdv A outer s H E hr xs o hφ hm => ?_
  have nd := sc_all_steps.nd
  cases hφ with
  | mk R h =>
  have sq := sq64 h
  refine dss_one (ds_ret (DT.toK (dictL (L := stepsL R) hr (DF.toL ((lc1 (own := [("pair", 1)]) (allP R) encP (fun p => .tuple [encP p, .list ((pairsN R p).map encT3)]) (fun p => [some (.d (encR R)), some (.d (encP p))]) (di_list (DF.toK (cf (g_all_pairs.at hr) (ak (v 0)) (.mk R h)))) (by unfold allP; rw [List.length_map, List.length_range]; omega) (fun p _ _ _ _ _ _ => gn 1) (fun p hp _ _ _ _ _ => tup (ak (v 1) (ak (DF.toK (cf (g_pairs_on.at ‹_›) (ak (v 0) (ak (v 1))) (φ_pairs_on.mk R h p ((mem_allP h).mp hp)))))))).cast ?_)) (stepsL_nodup h) T.b_dict)) rfl)
  unfold stepsL
  rw [List.map_map]
  rfl
inductive φ_further_ends : List PyData → Rs → Prop
  | mk (R : Rule) (h : R.ok) (es : List Nat) (sg : Nat) (he : ∀ e ∈ es, e < manyE R) (hz : es.length ≤ 1000) : φ_further_ends [encR R, nT es, nI sg] (.k (nT (furtherN R es sg)))
abbrev s_further_ends : Stmt := topS 52
theorem sc_further_ends : FnScope ["rule", "ends", "sign", "found", "end", "cell", "other"] ["rule", "ends", "sign"] (defScope s_further_ends) := ⟨rfl, rfl, rfl, by decide +kernel, rfl, by decide +kernel, by decide +kernel⟩
theorem ok_further_ends (T : Txt K mg c) (g_steps_of : GDef P w K mg base "steps_of" 3 φ_steps_of 2) {f : Addr} {fd : FuncData} (F : Fun K "further_ends" "further_ends" s_further_ends f fd) : FnOk P w K mg base (L2.CX P w) 3 f fd ["rule", "ends", "sign"] (spD K φ_further_ends 3) := by
  refine def_ok F sc_further_ends rfl fun cdv A outer s H E hr xs o hφ hm => ?_
  have nd := sc_further_ends.nd
  cases hφ with
  | mk R h es sg he hz =>
  have s4 := h.s4
  have ml := manyE_le h
  refine dss_cons (newK 3 ?_)
  refine dss_cons (ds_for es nI [4, 5, 6] (fun pre ρ => ∃ kvs ks, ρ = [some (.d (encR R)), some (.d (nT es)), some (.d (nI sg)), some (.k kvs), none, none, none] ∧ kvs.map (·.1) = (ks.map fun o : Nat => (Sum.inl (o : Int) : Key)) ∧ ks.Nodup ∧ ∀ o, o ∈ ks ↔ ∃ e ∈ pre, ∃ p ∈ stepsN R e sg, p.2 = o) bX_po rfl (fun _ => rfl) (di_tup (v 1)) ⟨[], [], rfl, rfl, List.nodup_nil, by simp⟩ ?_ ?_)
  · rintro pre a post ρ' hL ⟨kvs, ks, rfl, hk, hn, hm⟩
    have ha : a < manyE R := he a (by rw [hL]; simp)
    refine ⟨_, _, gn 4 (js := [4, 5, 6]), dss_one (ds_for (stepsN R a sg) encS [5, 6] (fun pr ρ => ∃ kvs ks, ρ = [some (.d (encR R)), some (.d (nT es)), some (.d (nI sg)), some (.k kvs), some (.d (nI a)), none, none] ∧ kvs.map (·.1) = (ks.map fun o : Nat => (Sum.inl (o : Int) : Key)) ∧ ks.Nodup ∧ ∀ o, o ∈ ks ↔ (∃ e ∈ pre, ∃ p ∈ stepsN R e sg, p.2 = o) ∨ ∃ p ∈ pr, p.2 = o) bX_po rfl (fun _ => rfl) (di_list (DF.toK (cf (g_steps_of.at hr) (ak (v 0) (ak (v 4) (ak (v 2)))) (.mk R h a sg ha)))) ⟨kvs, ks, rfl, hk, hn, by simpa using hm⟩ ?_ ?_)⟩
    · rintro pr b po ρ' hL2 ⟨kvs, ks, rfl, hk, hn, hm⟩
      have hb : ∀ o ∈ ks, o < manyE R := fun o ho => by
        rcases (hm o).mp ho with ⟨e, _, p, hp, rfl⟩ | ⟨p, hp, rfl⟩
        · exact (stepsN_lt h p hp).2
        · exact (stepsN_lt h p (by rw [hL2]; simp [hp])).2
      have hl : ks.length ≤ manyE R := nodup_len hn hb
      have hkl : kvs.length = ks.length := by
        have := congrArg List.length hk
        rwa [List.length_map, List.length_map] at this
      refine ⟨_, _, gtup (js := [5, 6]) (gcons (gn 5) (gcons (gn 6))), dss_one (putKI 3 (kvs := kvs) hr dk_bl (ve 6) (by omega) ⟨putD kvs (.inl (b.2 : Int)) (.bool true), putN ks b.2, rfl, putD_putN hk _ _, putN_nodup hn, fun o => ?_⟩)⟩
      rw [mem_putN, hm o]
      simp only [List.mem_append, List.mem_singleton]
      constructor
      · rintro ((z | ⟨p, hp, e⟩) | rfl)
        · exact .inl z
        · exact .inr ⟨p, .inl hp, e⟩
        · exact .inr ⟨b, .inr rfl, rfl⟩
      · rintro (z | ⟨p, (hp | rfl), e⟩)
        · exact .inl (.inl z)
        · exact .inl (.inr ⟨p, hp, e⟩)
        · exact .inr e.symm
    · rintro ρ' ⟨kvs, ks, rfl, hk, hn, hm⟩
      refine ⟨kvs, ks, rfl, hk, hn, fun o => ?_⟩
      rw [hm o]
      simp only [List.mem_append, List.mem_singleton]
      constructor
      · rintro (⟨e, he, z⟩ | z)
        · exact ⟨e, .inl he, z⟩
        · exact ⟨a, .inr rfl, z⟩
      · rintro ⟨e, (he | rfl), z⟩
        · exact .inl ⟨e, he, z⟩
        · exact .inr z
  · rintro ρ' ⟨kvs, ks, rfl, hk, hn, hm⟩
    have hp : (furtherN R es sg).Perm ks := (List.perm_ext_iff_of_nodup (furtherN_nodup R es sg) hn).mpr fun o => by rw [mem_furtherN h, hm o]
    have hl : ks.length ≤ 8 := by
      rw [← hp.length_eq]
      have := List.length_filter_le (fun o => es.any fun e => (stepsN R e sg).any fun p => decide (p.2 = o)) (List.range (manyE R))
      rw [List.length_range] at this
      show (List.filter _ _).length ≤ 8
      omega
    exact dss_one (ds_ret (tupL (DF.toL (sortK 3 T.b_sorted hk (by omega) hp (furtherN_sorted R es sg))) T.b_tuple) rfl)
inductive φ__law_rule : List PyData → Rs → Prop
  | mk (a b : Int) : φ__law_rule [.int a, .int b] (.k (encR (ruleOf a b)))
abbrev s__law_rule : Stmt := topS 64
theorem sc__law_rule : FnScope ["_law_cell", "_law_more", "_law_some", "_law_signs_here", "_law_wide", "_law_rows"] ["_law_cell", "_law_more"] (defScope s__law_rule) := ⟨rfl, rfl, rfl, by decide +kernel, rfl, by decide +kernel, by decide +kernel⟩
theorem ok__law_rule (T : Txt K mg c) (g__law_random : GDef P w K mg base "_law_random" 3 φ__law_random 2) (g__law_mending : GDef P w K mg base "_law_mending" 3 φ__law_mending 2) (g__law_turned : GDef P w K mg base "_law_turned" 4 φ__law_turned 2) {f : Addr} {fd : FuncData} (F : Fun K "_law_rule" "_law_rule" s__law_rule f fd) : FnOk P w K mg base (L2.CX P w) 3 f fd ["_law_cell", "_law_more"] (spD K φ__law_rule 2) := by
  refine def_ok F sc__law_rule rfl fun cdv A outer s H E hr xs o hφ hm => ?_
  have nd := sc__law_rule.nd
  cases hφ with
  | mk cell more =>
  have m := menu_ok _ (menu_mem cell)
  refine dss_cons (setF 2 ((lst (ak (tup (ak (dk_nat (m := 2)) (ak (dk_nat (m := 3)) (ak (dk_nat (m := 8)))))) (ak (tup (ak (dk_nat (m := 2)) (ak (dk_nat (m := 2)) (ak (dk_nat (m := 4)))))) (ak (tup (ak (dk_nat (m := 3)) (ak (dk_nat (m := 2)) (ak (dk_nat (m := 9)))))) (ak (tup (ak (dk_nat (m := 4)) (ak (dk_nat (m := 2)) (ak (dk_nat (m := 16)))))) (ak (tup (ak (dk_nat (m := 2)) (ak (dk_nat (m := 1)) (ak (dk_nat (m := 2)))))) (ak (tup (ak (dk_nat (m := 2)) (ak (dk_nat (m := 4)) (ak (dk_nat (m := 16)))))) (ak (tup (ak (dk_nat (m := 3)) (ak (dk_nat (m := 1)) (ak (dk_nat (m := 3)))))) (ak (tup (ak (dk_nat (m := 4)) (ak (dk_nat (m := 1)) (ak (dk_nat (m := 4))))))))))))))).cast (ys := menuR.map fun e => .tuple [nI e.1, nI e.2.1, nI e.2.2]) rfl) ?_)
  refine dss_cons (setT (js := [3, 4, 5]) (ixL (x := .tuple [nI (menuR.getD (cell % 8).toNat (0, 0, 0)).1, nI (menuR.getD (cell % 8).toNat (0, 0, 0)).2.1, nI (menuR.getD (cell % 8).toNat (0, 0, 0)).2.2]) (vl 2) (dk_mod (ve 0) de_int (by decide)).toE (by exact atI_menu menuR _ _ (0, 0, 0) (Int.emod_nonneg _ (by decide)) (Int.emod_lt_of_pos _ (by decide)))) (gtup (gcons (gn 3) (gcons (gn 4) (gcons (gn 5))))) ?_)
  show DSs _ _ _ [some (.d (.int cell)), some (.d (.int more)), some (.l (menuR.map fun e => .tuple [nI e.1, nI e.2.1, nI e.2.2])), some (.d (nI (menuR.getD (cell % 8).toNat (0, 0, 0)).1)), some (.d (nI (menuR.getD (cell % 8).toNat (0, 0, 0)).2.1)), some (.d (nI (menuR.getD (cell % 8).toNat (0, 0, 0)).2.2))] _
  have er : ∀ t, tableOf (menuR.getD (cell % 8).toNat (0, 0, 0)).1 (menuR.getD (cell % 8).toNat (0, 0, 0)).2.1 (menuR.getD (cell % 8).toNat (0, 0, 0)).2.2 cell more = t → encR (ruleOf cell more) = .tuple [nI (menuR.getD (cell % 8).toNat (0, 0, 0)).1, nI (menuR.getD (cell % 8).toNat (0, 0, 0)).2.1, nT t] := fun t e => by rw [← e]; rfl
  generalize menuR.getD (cell % 8).toNat (0, 0, 0) = e at m er ⊢
  obtain ⟨sg, wd, rows⟩ := e
  obtain ⟨s2, s4, w1, w4, few, hrw⟩ := m
  have s2 : 2 ≤ sg := s2
  have s4 : sg ≤ 4 := s4
  have w1 : 1 ≤ wd := w1
  have w4 : wd ≤ 4 := w4
  have hrw : rows = sg ^ wd := hrw
  have few : rows ≤ 16 := by rw [hrw]; exact few
  have h3 : sg ≤ rows := by rw [hrw]; exact Nat.le_self_pow (by omega) sg
  have er : ∀ t, tableOf sg wd rows cell more = t → encR (ruleOf cell more) = .tuple [nI sg, nI wd, nT t] := er
  refine dss_cons (ds_if (db_eqI (dk_mod (dk_div (ve 0) de_int (by decide)).toE de_int (by decide)).toE de_int) (fun h => ?_) (fun h => dss_nil ?_))
  · rw [decide_eq_true_eq] at h
    refine dss_one (ds_ret ((tup (ak (v 3) (ak (v 4) (ak (ck (g__law_mending.at hr) (ak (v 3) (ak (v 5) (ak (v 1)))) (.mk sg rows more (by omega) (by omega) h3)))))).cast (er _ ?_).symm) rfl)
    unfold tableOf
    rw [if_pos h]
  rw [decide_eq_false_iff_not] at h
  refine dss_cons (ds_if (db_gt (dk_mod (dk_div (ve 0) de_int (by decide)).toE de_int (by decide)).toE de_int) (fun h => ?_) (fun h => dss_nil ?_))
  · rename_i h0
    rw [decide_eq_true_eq] at h
    refine dss_one (ds_ret ((tup (ak (v 3) (ak (v 4) (ak (ck (g__law_turned.at hr) (ak (v 3) (ak (v 4) (ak (v 5) (ak (v 1))))) (.mk sg wd rows more s2 s4 w1 w4 (by omega))))))).cast (er _ ?_).symm) rfl)
    unfold tableOf
    rw [if_neg h0, if_pos h]
  rename_i h0
  rw [decide_eq_false_iff_not] at h
  refine dss_one (ds_ret ((tup (ak (v 3) (ak (v 4) (ak (ck (g__law_random.at hr) (ak (v 3) (ak (v 5) (ak (v 1)))) (.mk sg rows more (by omega) (by omega))))))).cast (er _ ?_).symm) rfl)
  unfold tableOf
  rw [if_neg h0, if_neg h]
inductive φ__law_ring_on : List PyData → Rs → Prop
  | mk (R : Rule) (h : R.ok) (l : List Nat) (hl : ∀ x ∈ l, x < R.s) (hz : l.length ≤ 100000) (hm : l ≠ []) : φ__law_ring_on [encR R, nL l] (.f ((onRing R l).map nI))
abbrev s__law_ring_on : Stmt := topS 67
theorem sc__law_ring_on : FnScope ["_law_rule_here", "_law_ring"] ["_law_rule_here", "_law_ring"] (defScope s__law_ring_on) := ⟨rfl, rfl, rfl, by decide +kernel, rfl, by decide +kernel, by decide +kernel⟩
theorem ok__law_ring_on (T : Txt K mg c) (g__law_on : GDef P w K mg base "_law_on" 2 φ__law_on 2) {f : Addr} {fd : FuncData} (F : Fun K "_law_ring_on" "_law_ring_on" s__law_ring_on f fd) : FnOk P w K mg base (L2.CX P w) 3 f fd ["_law_rule_here", "_law_ring"] (spD K φ__law_ring_on 2) := by
  refine def_ok F sc__law_ring_on rfl fun cdv A outer s H E hr xs o hφ hm => ?_
  have nd := sc__law_ring_on.nd
  cases hφ with
  | mk R h l hl hz hm2 =>
  have hp : 0 < l.length := List.length_pos_iff.mpr hm2
  have w1 := h.w1
  have w4 := h.w4
  have hk : R.w - 1 ≤ R.w * l.length := Nat.le_trans (Nat.sub_le _ _) (Nat.le_mul_of_pos_right _ hp)
  have hz5 : l.length * (1 + R.w) ≤ 100000 * 5 := Nat.mul_le_mul hz (by omega)
  refine dss_one (ds_retF (cf (g__law_on.at hr) (ak (v 0) (ak (((sl (df_rep (v 1).toL (dk_addN (de_nat (m := 1)) (ixT (v 0) (de_int (q := 1))).toE).toE (by omega) (by omega) (by rw [sizeLine_eq, Int.toNat_natCast, List.length_map]; omega)).toL do_none (do_some (dk_subN (m := (l.map nI).length + R.w) (m' := 1) (dk_addN (lenL (ve 1) T.b_len).toE (ixT (v 0) (de_int (q := 1))).toE).toE de_nat (by omega)).toE)).cast ?_).toK))) (.mk R h (around l (R.w - 1)) (around_lt hl hp) (by rw [around_len]; omega) (by rw [around_len]; omega))) rfl)
  show Dt.cutD (List.replicate ((1 + R.w : Nat) : Int).toNat (l.map nI)).flatten none (some (((l.map nI).length + R.w - 1 : Nat) : Int)) = _
  rw [Int.toNat_natCast, around_rep (k := R.w) l (R.w - 1) hk, ← List.map_replicate, ← List.map_flatten, cutD_map, HT.sIx_nat]
  have e3 : HT.sIx (List.replicate (1 + R.w) l).flatten.length 0 none = 0 := rfl
  rw [e3, List.drop_zero, Nat.sub_zero, rep_len, Nat.min_eq_left, List.length_map]
  · congr 2
    omega
  · rw [List.length_map, Nat.add_mul, Nat.one_mul]
    omega
inductive φ__law_ring_by : List PyData → Rs → Prop
  | mk (ns : List Int) (R : Rule) (h : R.ok) (k : Nat) : φ__law_ring_by [scrD ns, encR R, nI k] (.f ((pieceOf R.s (cellAt ns (8 + k)) (ringZ (cellAt ns (4 + k)))).map nI))
abbrev s__law_ring_by : Stmt := topS 76
theorem sc__law_ring_by : FnScope ["_law_script", "_law_rule_here", "_law_k", "_law_cell", "_law_size"] ["_law_script", "_law_rule_here", "_law_k"] (defScope s__law_ring_by) := ⟨rfl, rfl, rfl, by decide +kernel, rfl, by decide +kernel, by decide +kernel⟩
theorem ok__law_ring_by (T : Txt K mg c) (g__law_cell_at : GDef P w K mg base "_law_cell_at" 2 φ__law_cell_at 1) (g__law_piece : GDef P w K mg base "_law_piece" 3 φ__law_piece 2) {f : Addr} {fd : FuncData} (F : Fun K "_law_ring_by" "_law_ring_by" s__law_ring_by f fd) : FnOk P w K mg base (L2.CX P w) 3 f fd ["_law_script", "_law_rule_here", "_law_k"] (spD K φ__law_ring_by 3) := by
  refine def_ok F sc__law_ring_by rfl fun cdv A outer s H E hr xs o hφ hm => ?_
  have nd := sc__law_ring_by.nd
  cases hφ with
  | mk ns R h k =>
  have at0 : ∀ k : Nat, φ__law_cell_at [scrD ns, nI k] (.k (.int (cellAt ns k))) := fun k => .mk ns k
  refine dss_cons (set 3 (x := .int (cellAt ns (4 + k))) (ck (g__law_cell_at.at hr) (ak (v 0) (ak (dk_addN (m := 4) (m' := k) de_nat (ve 2)))) (at0 (4 + k))) ?_)
  refine dss_cons (set 4 (x := nI (1 + (cellAt ns (4 + k) % 12).toNat)) (dk_addN (m := 1) (m' := (cellAt ns (4 + k) % 12).toNat) de_nat (DK.toE (dk_modZ (ve 3) (de_int (q := 12)) (by decide)))) ?_)
  have fin : ∀ z, z = ringZ (cellAt ns (4 + k)) → DSs (bX P w K mg base ["_law_script", "_law_rule_here", "_law_k", "_law_cell", "_law_size"] "_law_ring_by" s__law_ring_by f cdv A outer s H E) (wE E) ((defBody s__law_ring_by).drop 3) [some (.d (scrD ns)), some (.d (encR R)), some (.d (nI k)), some (.d (.int (cellAt ns (4 + k)))), some (.d (nI z))] (fnK (.f ((pieceOf R.s (cellAt ns (8 + k)) (ringZ (cellAt ns (4 + k)))).map nI))) := fun z hz => by
    subst hz
    have zl := ringZ_le (cellAt ns (4 + k))
    exact dss_one (ds_retF (cf (g__law_piece.at hr) (ak (v 1) (ak (ck (g__law_cell_at.at hr) (ak (v 0) (ak (dk_addN (m := 8) (m' := k) de_nat (ve 2)))) (at0 (8 + k))) (ak (v 4)))) (.mk R h _ _ (by omega))) rfl)
  refine dss_cons (ds_if (db_eqI (dk_mod (dk_div (ve 3) de_int (by decide)).toE de_int (by decide)).toE de_int) (fun hq => dss_one (set 4 (x := nI (1 + (cellAt ns (4 + k) / 96 % 60).toNat)) (dk_addN (m := 1) (m' := (cellAt ns (4 + k) / 96 % 60).toNat) de_nat (DK.toE (dk_modZ (dk_div (ve 3) (de_int (q := 96)) (by decide)).toE (de_int (q := 60)) (by decide)))) (fin _ ?_))) (fun hq => dss_nil (fin _ ?_)))
  · rw [decide_eq_true_eq] at hq
    unfold ringZ
    rw [if_pos hq]
  · rw [decide_eq_false_iff_not] at hq
    unfold ringZ
    rw [if_neg hq]
inductive φ_is_piece (c : Cs) : List PyData → Rs → Prop
  | mk (R : Rule) (h : R.ok) (x : PyData) (hx : plainD x) (hl : ∀ l, x = .list l → l.length ≤ 1000000) : φ_is_piece c [encR R, x] (.k (.bool (pieceD R.s x)))
  | bad (r x : PyData) (h : isRuleD r = false) : φ_is_piece c [r, x] (.raise c.BadRule)
abbrev s_is_piece : Stmt := topS 18
theorem sc_is_piece : FnScope ["rule", "thing", "sign"] ["rule", "thing"] (defScope s_is_piece) := ⟨rfl, rfl, rfl, by decide +kernel, rfl, by decide +kernel, by decide +kernel⟩
theorem ok_is_piece (T : Txt K mg c) (g_need_rule : GDef P w K mg base "need_rule" 1 (φ_need_rule c) 3) (g_is_among : GDef P w K mg base "is_among" 3 φ_is_among 1) {f : Addr} {fd : FuncData} (F : Fun K "is_piece" "is_piece" s_is_piece f fd) : FnOk P w K mg base (L2.CX P w) 4 f fd ["rule", "thing"] (spD K (φ_is_piece c) 2) := by
  refine def_ok F sc_is_piece rfl fun cdv A outer s H E hr xs o hφ hm => ?_
  have nd := sc_is_piece.nd
  cases hφ with
  | mk R h x hx hl =>
    refine dss_cons (expr (ce (g_need_rule.at hr) (ae (ve 0)) (.mk _ (isRule_enc h))) ?_)
    cases e : isListD x with
    | false =>
      have ep : pieceD R.s x = false := by
        cases x <;> first | rfl | cases e
      rw [ep]
      exact dss_one (ds_ret (dk_and (k := false) (k' := false) (isi "list" (ve 1) T.b_isinstance T.b_list (by rw [kit_list, e])).toE (fun h => by cases h)) rfl)
    | true =>
      obtain ⟨l, rfl⟩ := hx e
      have hz := hl l rfl
      refine dss_one (ds_ret (dk_and (k := true) (k' := pieceD R.s (.list l)) (isi "list" (ve 1) T.b_isinstance T.b_list (by rw [kit_list, e])).toE fun _ => de_one ?_) rfl)
      refine ((allL (ns := l.map fun x => among x 0 ((R.s : Int) - 1)) ((lc1 (own := [("sign", 2)]) l id (fun x => .bool (among x 0 ((R.s : Int) - 1))) (fun x => [some (.d (encR R)), some (.d (.list l)), some (.d x)])
        (di_list ((v 1).cast (by rw [List.map_id]))) (by omega) (fun a _ _ _ _ _ _ => gn 2) (fun a _ _ _ _ _ _ => cs (g_is_among.at hr) (ae (ve 2) (ae de_int (ae (dk_sub (ixT (v 0) (de_int (q := 0))).toE de_int).toE))) (.mk a 0 _))).cast (by rw [List.map_map]; rfl)).toE T.b_all).cast (by rw [List.all_map]; rfl)).toE
  | bad r x h =>
    exact dss_cons (exprR (cr bX_takes (g_need_rule.at hr) (ae (ve 0)) (.bad r h)) rfl)
inductive φ_least_origin : List PyData → Rs → Prop
  | mk (R : Rule) (h : R.ok) (l cs : List Nat) (hz : l.length ≤ 100000) (hc : leastN R l = some cs) : φ_least_origin [encR R, nL l] (.f (cs.map nI))
  | non (R : Rule) (h : R.ok) (l : List Nat) (hz : l.length ≤ 100000) (hc : leastN R l = none) : φ_least_origin [encR R, nL l] (.k .none)
abbrev s_least_origin : Stmt := topS 27
theorem sc_least_origin : FnScope ["rule", "piece", "rows", "end", "found", "place", "sign", "cell", "one"] ["rule", "piece"] (defScope s_least_origin) := ⟨rfl, rfl, rfl, by decide +kernel, rfl, by decide +kernel, by decide +kernel⟩
theorem ok_least_origin (T : Txt K mg c) (g_leading_on : GDef P w K mg base "leading_on" 2 φ_leading_on 3) (g_cells_of : GDef P w K mg base "cells_of" 3 φ_cells_of 1) (g_steps_of : GDef P w K mg base "steps_of" 3 φ_steps_of 2) {f : Addr} {fd : FuncData} (F : Fun K "least_origin" "least_origin" s_least_origin f fd) : FnOk P w K mg base (L2.CX P w) 4 f fd ["rule", "piece"] (spD K φ_least_origin 2) := by
  refine def_ok F sc_least_origin rfl fun cdv A outer s H E hr xs o hφ hm => ?_
  have nd := sc_least_origin.nd
  have pre1 : ∀ (R : Rule) (l : List Nat), R.ok → l.length ≤ 100000 → ∀ Kx : En, DSs (bX P w K mg base ["rule", "piece", "rows", "end", "found", "place", "sign", "cell", "one"] "least_origin" s_least_origin f cdv A outer s H E) (wE E) ((defBody s_least_origin).drop 1) [some (.d (encR R)), some (.d (nL l)), some (.l ((leadN R l).map nL)), none, none, none, none, none, none] Kx → DSs (bX P w K mg base ["rule", "piece", "rows", "end", "found", "place", "sign", "cell", "one"] "least_origin" s_least_origin f cdv A outer s H E) (wE E) (defBody s_least_origin) [some (.d (encR R)), some (.d (nL l)), none, none, none, none, none, none, none] Kx := fun R l h hz Kx hK => by
    exact dss_cons (setF 2 (cf (g_leading_on.at hr) (ak (v 0) (ak (v 1))) (.mk R h l (by omega))) hK)
  have row0 : ∀ (R : Rule) (l : List Nat), L2.atI ((leadN R l).map nL) 0 = some (nL ((leadN R l).headD [])) := fun R l => by
    have hne := leadN_len R l
    cases q : leadN R l with
    | nil => rw [q] at hne; simp at hne
    | cons x y =>
      show L2.atI _ ((0 : Nat) : Int) = _
      exact atI_nat rfl
  cases hφ with
  | non R h l hz hc =>
    refine pre1 R l h hz _ ?_
    have he : (leadN R l).headD [] = [] := by
      unfold leastN at hc
      split at hc
      · assumption
      · cases hc
    refine dss_cons (ds_if (k := true) ((db_eqL hr (l := (leadN R l).headD []) (l' := []) (ixL (vl 2) de_int (row0 R l)).toE (lst dak_nil).toE).cast (by rw [he]; rfl)) (fun _ => dss_one (ds_ret dk_non rfl)) (fun h => by cases h))
  | mk R h l cs hz hc =>
    refine pre1 R l h hz _ ?_
    have ml := manyE_le h
    have w1 := h.w1
    have w4 := h.w4
    have s4 := h.s4
    have s2 := h.s2
    obtain ⟨e0, er, he, rfl⟩ : ∃ e0 er, (leadN R l).headD [] = e0 :: er ∧ cs = cells R.s (R.w - 1) e0 ++ wayN R l e0 := by
      unfold leastN at hc
      split at hc
      · cases hc
      · rename_i e0 er heq
        exact ⟨e0, er, heq, (Option.some.inj hc).symm⟩
    refine dss_cons (ds_if (k := false) ((db_eqL hr (l := (leadN R l).headD []) (l' := []) (ixL (vl 2) de_int (row0 R l)).toE (lst dak_nil).toE).cast (by rw [he]; rfl)) (fun h => by cases h) (fun _ => dss_nil ?_))
    refine dss_cons (set 3 (ixL (x := nI e0) (DK.toL (ixL (vl 2) de_int (row0 R l))) de_int (by rw [he]; show L2.atI _ ((0 : Nat) : Int) = _; exact atI_nat rfl)) ?_)
    refine dss_cons (setF 4 (cf (g_cells_of.at hr) (ak (ixT (v 0) (de_int (q := 0))) (ak (dk_subN (m' := 1) (ixT (v 0) (de_int (q := 1))).toE de_nat w1) (ak (v 3)))) (.mk R.s (R.w - 1) e0 (by omega) (by omega) (by omega))) ?_)
    refine dss_cons (ds_for ((l.zipIdx).map fun q => (q.2, q.1)) encS [5, 6, 7, 8] (fun pre ρ => ∃ e f, ρ = [some (.d (encR R)), some (.d (nL l)), some (.l ((leadN R l).map nL)), some (.d (nI e)), some (.l (f.map nI)), none, none, none, none] ∧ e ∈ (leadN R (l.drop pre.length)).headD [] ∧ e < manyE R ∧ f ++ wayN R (l.drop pre.length) e = cells R.s (R.w - 1) e0 ++ wayN R l e0 ∧ f.length ≤ 8 + pre.length) bX_po rfl (fun _ => rfl) (di_enumN T.b_enumerate (v 1)) ⟨e0, _, rfl, by rw [List.length_nil, List.drop_zero, he]; simp, ?_, rfl, by rw [cells_len]; omega⟩ ?_ ?_)
    · exact leadN_lt R l ((leadN R l).headD []) (by
        have hne := leadN_len R l
        cases q : leadN R l with
        | nil => rw [q] at hne; simp at hne
        | cons x y => simp) e0 (by rw [he]; simp)
    · rintro pre b post ρ' hL ⟨e, f2, rfl, h1, h2, h3, h4⟩
      have hlen : pre.length < l.length := by
        have := congrArg List.length hL
        rw [List.length_map, List.length_zipIdx, List.length_append, List.length_cons] at this
        omega
      have hb : b = (pre.length, l[pre.length]) := by
        have := congrArg (·[pre.length]?) hL
        simp [hlen] at this
        exact this.symm
      subst hb
      have ed : l.drop pre.length = l[pre.length] :: l.drop (pre.length + 1) := (List.getElem_cons_drop hlen).symm
      rw [ed] at h1 h3
      obtain ⟨m1, m2, m3⟩ := stepOn_mem (goodN_step h1)
      have hrow : L2.atI ((leadN R l).map nL) ((pre.length + 1 : Nat) : Int) = some (nL ((leadN R (l.drop (pre.length + 1))).headD [])) := by
        have := atI_map (leadN R l) nL (pre.length + 1) [] (by rw [leadN_len]; omega)
        rw [this]
        have e5 := leadN_at R (l.take (pre.length + 1)) (l.drop (pre.length + 1))
        rw [List.take_append_drop, List.length_take, Nat.min_eq_left (by omega)] at e5
        rw [e5]
      have inN : ∀ (prev : List Nat) (o : Nat), ((prev.map nI).any fun z => PyData.eqv z (nI o)) = decide (o ∈ prev) := fun prev o => by
        induction prev with
        | nil => rfl
        | cons a r ih =>
          rw [List.map_cons, List.any_cons, ih, eqv_nI]
          by_cases h1 : a = o <;> by_cases h2 : o ∈ r <;> simp [h1, h2, eq_comm]
          exact fun z => h1 z.symm
      generalize hp : stepOn R ((leadN R (l.drop (pre.length + 1))).headD []) e l[pre.length] = p at m1 m2 m3
      have ew : wayN R (l[pre.length] :: l.drop (pre.length + 1)) e = p.1 :: wayN R (l.drop (pre.length + 1)) p.2 := by rw [wayN, hp]
      refine ⟨_, _, gtup (js := [5, 6, 7, 8]) (gcons (gn 5) (gcons (gn 6))), ?_⟩
      refine dss_cons (setT (js := [3, 7]) (ixL (x := encS p) (DF.toL (lc (own := [("one", 8)]) (stepsN R e l[pre.length]) encS (fun p => decide (p.2 ∈ (leadN R (l.drop (pre.length + 1))).headD [])) encS (fun p => [some (.d (encR R)), some (.d (nL l)), some (.l ((leadN R l).map nL)), some (.d (nI e)), some (.l (f2.map nI)), some (.d (nI pre.length)), some (.d (nI l[pre.length])), none, some (.d (encS p))]) (di_list (DF.toK (cf (g_steps_of.at hr) (ak (v 0) (ak (v 3) (ak (v 6)))) (.mk R h e _ h2)))) (by have := stepsN_len R e l[pre.length]; omega) (fun p _ _ _ _ _ _ => gn 8) (fun p _ _ _ _ _ _ => pts1 (DB.cast (db_inD hr (by with_unfolding_all rfl) (DK.toE (ixT (xs := [nI p.1, nI p.2]) (v 8) (de_int (q := 1)))) (DK.toE (ixL (x := nL ((leadN R (l.drop (pre.length + 1))).headD [])) (vl 2) (DK.toE (dk_addN (ve 5) (de_nat (m := 1)))) hrow)) (shp_int (k := 0)).ok (shp_nL (k := 0)).ok) (inN _ _))) (fun p _ _ _ _ _ _ _ => v 8))) de_int ?_) (gtup (gcons (gn 7) (gcons (gn 3)))) ?_)
      · cases q : (stepsN R e l[pre.length]).filter fun p => decide (p.2 ∈ (leadN R (l.drop (pre.length + 1))).headD []) with
        | nil => rw [q] at m3; cases m3
        | cons x y =>
          rw [q] at m3
          cases m3
          show L2.atI _ ((0 : Nat) : Int) = _
          exact atI_nat rfl
      refine dss_one (app 4 (xs := f2.map nI) (v 7) (by rw [List.length_map, sizeLine_eq]; omega) ⟨p.2, f2 ++ [p.1], ?_, ?_, (stepsN_lt h p m1).2, ?_, ?_⟩)
      · show _ = _
        rw [List.map_append]
        rfl
      · rw [List.length_append, List.length_singleton]; exact m2
      · rw [List.length_append, List.length_singleton, ← h3, ew, List.append_assoc]; rfl
      · simp only [List.length_append, List.length_singleton]; omega
    · rintro ρ' ⟨e, f2, rfl, h1, h2, h3, h4⟩
      rw [List.length_map, List.length_zipIdx, List.drop_length] at h3
      refine dss_one (retO 4 ?_)
      rw [← h3]
      show _ = Rs.f ((f2 ++ []).map nI)
      rw [List.append_nil]
inductive φ_twins : List PyData → Rs → Prop
  | mk (R : Rule) (h : R.ok) (e : Nat) (w : List Pr) (hw : twB R = some (e, w)) : φ_twins [encR R] (.p ((cells R.s (R.w - 1) e ++ w.map (·.1)).map nI) ((cells R.s (R.w - 1) e ++ w.map (·.2)).map nI))
  | non (R : Rule) (h : R.ok) (hw : twB R = none) : φ_twins [encR R] (.k .none)
abbrev s_twins : Stmt := topS 36
theorem sc_twins : FnScope ["rule", "goals", "steps", "best", "begun", "pair", "found"] ["rule"] (defScope s_twins) := ⟨rfl, rfl, rfl, by decide +kernel, rfl, by decide +kernel, by decide +kernel⟩
theorem ok_twins (T : Txt K mg c) (g_need_rule : GDef P w K mg base "need_rule" 1 (φ_need_rule c) 3) (g_like_pairs : GDef P w K mg base "like_pairs" 1 φ_like_pairs 2) (g_all_steps : GDef P w K mg base "all_steps" 1 φ_all_steps 3) (g_way_from : GDef P w K mg base "way_from" 3 φ_way_from 2) (g_is_shorter : GDef P w K mg base "is_shorter" 2 φ_is_shorter 1) (g_cells_of : GDef P w K mg base "cells_of" 3 φ_cells_of 1) {f : Addr} {fd : FuncData} (F : Fun K "twins" "twins" s_twins f fd) : FnOk P w K mg base (L2.CX P w) 4 f fd ["rule"] (spD K φ_twins 1) := by
  refine def_ok F sc_twins rfl fun cdv A outer s H E hr xs o hφ hm => ?_
  have nd := sc_twins.nd
  have main : ∀ (R : Rule) (h : R.ok) (o : Rs), (∀ (b : Option (Nat × List Pr)), twB R = b → DSs (bX P w K mg base ["rule", "goals", "steps", "best", "begun", "pair", "found"] "twins" s_twins f cdv A outer s H E) (wE E) ((defBody s_twins).drop 6) [some (.d (encR R)), some (.d (.list ((diagP R).map encP))), some (.d (stepsD R)), some (.d (optD (b.map (·.2)))), some (.l (match b with | none => [] | some q => (cells R.s (R.w - 1) q.1).map nI)), none, none] (fnK o)) → DSs (bX P w K mg base ["rule", "goals", "steps", "best", "begun", "pair", "found"] "twins" s_twins f cdv A outer s H E) (wE E) (defBody s_twins) [some (.d (encR R)), none, none, none, none, none, none] (fnK o) := fun R h o hK => by
    have w1 := h.w1
    have w4 := h.w4
    have s2 := h.s2
    have s4 := h.s4
    have mp := manyE_pos h
    let bg : Option (Nat × List Pr) → List PyData := fun b => match b with | none => [] | some q => (cells R.s (R.w - 1) q.1).map nI
    refine dss_cons (expr (ce (g_need_rule.at hr) (ae (ve 0)) (.mk _ (isRule_enc h))) ?_)
    refine dss_cons (setF 1 (cf (g_like_pairs.at hr) (ak (v 0)) (.mk R h)) ?_)
    refine dss_freeze 1 rfl ?_
    refine dss_cons (set 2 (ck (g_all_steps.at hr) (ak (v 0)) (.mk R h)) ?_)
    refine dss_cons (set 3 dk_non ?_)
    refine dss_cons (setF 4 (lst dak_nil) ?_)
    let f0 : Nat → Option (List Pr) := fun e => wayN' R (e, e) (diagP R)
    refine dss_cons (ds_for (List.range (manyE R)) (fun e => encP (e, e)) [5, 6] (fun pre ρ => ρ = [some (.d (encR R)), some (.d (.list ((diagP R).map encP))), some (.d (stepsD R)), some (.d (optD ((bestF f0 pre).map (·.2)))), some (.l (bg (bestF f0 pre))), none, none]) bX_po rfl (fun _ => rfl) (di_list ((v 1).cast (by unfold diagP; rw [List.map_map]; rfl))) rfl ?_ ?_)
    · rintro pre e post ρ' hL rfl
      have he : e < manyE R := List.mem_range.mp (by rw [hL]; simp)
      rw [bestF_snoc]
      generalize bestF f0 pre = b
      have hwf : φ_way_from [stepsD R, encP (e, e), .list ((diagP R).map encP)] (wayR R (e, e) (diagP R)) := .mk R h (e, e) ⟨he, he⟩ (diagP R)
      refine ⟨_, _, gn 5 (js := [5, 6]), ?_⟩
      cases q : wayN' R (e, e) (diagP R) with
      | none =>
        have hwr : wayR R (e, e) (diagP R) = .k .none := by unfold wayR; rw [q]
        rw [hwr] at hwf
        have hst : bestStep f0 b e = b := by unfold bestStep; show (match wayN' R (e, e) (diagP R) with | none => b | some w => _) = b; rw [q]
        rw [hst]
        refine dss_cons (set 6 (x := optD none) (ck (g_way_from.at hr) (ak (v 2) (ak (v 5) (ak (v 1)))) hwf) ?_)
        exact dss_one (ds_if (k := false) (tb (ce (g_is_shorter.at hr) (ae (ve 6) (ae (ve 3))) (.mk none (b.map (·.2))))) (fun h => by cases h) (fun _ => dss_nil rfl))
      | some w =>
        have hwr : wayR R (e, e) (diagP R) = .f (w.map encP) := by unfold wayR; rw [q]
        rw [hwr] at hwf
        refine dss_cons (setF 6 (cf (g_way_from.at hr) (ak (v 2) (ak (v 5) (ak (v 1)))) hwf) ?_)
        have hsh : φ_is_shorter [.list (w.map encP), optD (b.map (·.2))] (.k (.bool (shorterO w (b.map (·.2))))) := φ_is_shorter.mk (some w) (b.map fun x : Nat × List Pr => x.2)
        refine dss_one (ds_if (k := shorterO w (b.map (·.2))) (tb (ce (g_is_shorter.at hr) (ae (vle 6) (ae (ve 3))) hsh)) (fun hq => ?_) (fun hq => dss_nil ?_))
        · have hst : bestStep f0 b e = some (e, w) := by unfold bestStep; show (match wayN' R (e, e) (diagP R) with | none => b | some w => _) = _; rw [q]; exact if_pos hq
          rw [hst]
          refine dss_freeze 6 rfl ?_
          refine dss_cons (set 3 (v 6) ?_)
          exact dss_one (setF 4 (cf (g_cells_of.at hr) (ak (ixT (v 0) (de_int (q := 0))) (ak (dk_subN (m' := 1) (ixT (v 0) (de_int (q := 1))).toE de_nat w1) (ak (ixT (x := nI e) (v 5) (de_int (q := 0)))))) (.mk R.s (R.w - 1) e (by omega) (by omega) (by omega))) rfl)
        · have hst : bestStep f0 b e = b := by unfold bestStep; show (match wayN' R (e, e) (diagP R) with | none => b | some w => _) = _; rw [q]; exact if_neg (by rw [hq]; exact Bool.false_ne_true)
          rw [hst]
          rfl
    · rintro ρ' rfl
      exact hK _ rfl
  cases hφ with
  | mk R h e w hw =>
    refine main R h _ fun b hb => ?_
    rw [hw] at hb
    subst hb
    have bo := bestF_ok (fun e => wayN' R (e, e) (diagP R)) (List.range (manyE R))
    have bo : bestOk _ _ (twB R) := bo
    rw [hw] at bo
    obtain ⟨h1, h2, _⟩ := bo
    have wl : w.length ≤ 66 := by
      have h2 : wayN' R (e, e) (diagP R) = some w := h2
      unfold wayN' at h2
      cases q : (finW R (e, e)).find? fun x => decide (x.1 ∈ diagP R) with
      | none => rw [q] at h2; cases h2
      | some x =>
        rw [q] at h2
        cases h2
        exact finW_plen (e, e) x (List.mem_of_find?_eq_some q)
    refine dss_cons (ds_if (k := false) ((db_isN (ve 3)).cast (by rfl)) (fun h => by cases h) (fun _ => dss_nil ?_))
    refine dss_one (retP ((df_cat (vl 4) (DF.toL ((lc1 (own := [("pair", 5)]) w encP (fun c => nI c.1) (fun c => [some (.d (encR R)), some (.d (.list ((diagP R).map encP))), some (.d (stepsD R)), some (.d (.list (w.map encP))), some (.l ((cells R.s (R.w - 1) e).map nI)), some (.d (encP c)), none]) (di_list (v 3)) (by omega) (fun c _ _ _ _ _ _ => gn 5) (fun c _ _ _ _ _ _ => ixT (x := nI c.1) (v 5) (de_int (q := 0))))))  (by rw [List.length_map, List.length_map, cells_len, sizeLine_eq]; have := h.w4; omega)).cast (ys := (cells R.s (R.w - 1) e ++ w.map (·.1)).map nI) (by rw [List.map_append, List.map_map]; rfl)) ((df_cat (vl 4) (DF.toL ((lc1 (own := [("pair", 5)]) w encP (fun c => nI c.2) (fun c => [some (.d (encR R)), some (.d (.list ((diagP R).map encP))), some (.d (stepsD R)), some (.d (.list (w.map encP))), some (.l ((cells R.s (R.w - 1) e).map nI)), some (.d (encP c)), none]) (di_list (v 3)) (by omega) (fun c _ _ _ _ _ _ => gn 5) (fun c _ _ _ _ _ _ => ixT (x := nI c.2) (v 5) (de_int (q := 1))))))  (by rw [List.length_map, List.length_map, cells_len, sizeLine_eq]; have := h.w4; omega)).cast (ys := (cells R.s (R.w - 1) e ++ w.map (·.2)).map nI) (by rw [List.map_append, List.map_map]; rfl)) rfl)
  | non R h hw =>
    refine main R h _ fun b hb => ?_
    rw [hw] at hb
    subst hb
    exact dss_cons (ds_if (k := true) ((db_isN (ve 3)).cast (by rfl)) (fun _ => dss_one (ds_ret dk_non rfl)) (fun h => by cases h))
inductive φ_rings : List PyData → Rs → Prop
  | mk (R : Rule) (h : R.ok) (p : Pr) (w : List Pr) (hw : rgB R = some (p, w)) : φ_rings [encR R] (.p ((w.map (·.1)).map nI) ((w.map (·.2)).map nI))
  | non (R : Rule) (h : R.ok) (hw : rgB R = none) : φ_rings [encR R] (.k .none)
abbrev s_rings : Stmt := topS 37
theorem sc_rings : FnScope ["rule", "steps", "best", "pair", "found"] ["rule"] (defScope s_rings) := ⟨rfl, rfl, rfl, by decide +kernel, rfl, by decide +kernel, by decide +kernel⟩
theorem ok_rings (T : Txt K mg c) (g_need_rule : GDef P w K mg base "need_rule" 1 (φ_need_rule c) 3) (g_all_steps : GDef P w K mg base "all_steps" 1 φ_all_steps 3) (g_all_pairs : GDef P w K mg base "all_pairs" 1 φ_all_pairs 2) (g_way_from : GDef P w K mg base "way_from" 3 φ_way_from 2) (g_is_shorter : GDef P w K mg base "is_shorter" 2 φ_is_shorter 1) {f : Addr} {fd : FuncData} (F : Fun K "rings" "rings" s_rings f fd) : FnOk P w K mg base (L2.CX P w) 4 f fd ["rule"] (spD K φ_rings 1) := by
  refine def_ok F sc_rings rfl fun cdv A outer s H E hr xs o hφ hm => ?_
  have nd := sc_rings.nd
  have main : ∀ (R : Rule) (h : R.ok) (o : Rs), (∀ (b : Option (Pr × List Pr)), rgB R = b → DSs (bX P w K mg base ["rule", "steps", "best", "pair", "found"] "rings" s_rings f cdv A outer s H E) (wE E) ((defBody s_rings).drop 4) [some (.d (encR R)), some (.d (stepsD R)), some (.d (optD (b.map fun x : Pr × List Pr => x.2))), none, none] (fnK o)) → DSs (bX P w K mg base ["rule", "steps", "best", "pair", "found"] "rings" s_rings f cdv A outer s H E) (wE E) (defBody s_rings) [some (.d (encR R)), none, none, none, none] (fnK o) := fun R h o hK => by
    refine dss_cons (expr (ce (g_need_rule.at hr) (ae (ve 0)) (.mk _ (isRule_enc h))) ?_)
    refine dss_cons (set 1 (ck (g_all_steps.at hr) (ak (v 0)) (.mk R h)) ?_)
    refine dss_cons (set 2 dk_non ?_)
    let f0 : Pr → Option (List Pr) := fun p => if p.1 ≤ p.2 then wayN' R p [p] else none
    refine dss_cons (ds_for (allP R) encP [3, 4] (fun pre ρ => ρ = [some (.d (encR R)), some (.d (stepsD R)), some (.d (optD ((bestF f0 pre).map fun x : Pr × List Pr => x.2))), none, none]) bX_po rfl (fun _ => rfl) (di_list (DF.toK (cf (g_all_pairs.at hr) (ak (v 0)) (.mk R h)))) rfl ?_ ?_)
    · rintro pre p post ρ' hL rfl
      have hp : okP R p := (mem_allP h).mp (by rw [hL]; simp)
      rw [bestF_snoc]
      generalize bestF f0 pre = b
      have hwf : φ_way_from [stepsD R, encP p, .list ([p].map encP)] (wayR R p [p]) := .mk R h p hp [p]
      refine ⟨_, _, gn 3 (js := [3, 4]), ?_⟩
      refine dss_one (ds_if (db_leN (m1 := p.1) (m2 := p.2) (DK.toE (ixT (x := nI p.1) (v 3) (de_int (q := 0)))) (DK.toE (ixT (x := nI p.2) (v 3) (de_int (q := 1))))) (fun hq => ?_) (fun hq => dss_nil ?_))
      · have hq : p.1 ≤ p.2 := of_decide_eq_true hq
        have hf : f0 p = wayN' R p [p] := if_pos hq
        cases q : wayN' R p [p] with
        | none =>
          have hwr : wayR R p [p] = .k .none := by unfold wayR; rw [q]
          rw [hwr] at hwf
          have hst : bestStep f0 b p = b := by unfold bestStep; rw [hf, q]
          rw [hst]
          refine dss_cons (set 4 (x := optD none) (ck (g_way_from.at hr) (ak (v 1) (ak (v 3) (ak (DF.toK (lst (ak (v 3))))))) hwf) ?_)
          exact dss_one (ds_if (k := false) (tb (ce (g_is_shorter.at hr) (ae (ve 4) (ae (ve 2))) (.mk none (b.map fun x : Pr × List Pr => x.2)))) (fun h => by cases h) (fun _ => dss_nil rfl))
        | some w =>
          have hwr : wayR R p [p] = .f (w.map encP) := by unfold wayR; rw [q]
          rw [hwr] at hwf
          refine dss_cons (setF 4 (cf (g_way_from.at hr) (ak (v 1) (ak (v 3) (ak (DF.toK (lst (ak (v 3))))))) hwf) ?_)
          have hsh : φ_is_shorter [.list (w.map encP), optD (b.map fun x : Pr × List Pr => x.2)] (.k (.bool (shorterO w (b.map fun x : Pr × List Pr => x.2)))) := φ_is_shorter.mk (some w) (b.map fun x : Pr × List Pr => x.2)
          refine dss_one (ds_if (k := shorterO w (b.map fun x : Pr × List Pr => x.2)) (tb (ce (g_is_shorter.at hr) (ae (vle 4) (ae (ve 2))) hsh)) (fun hq => ?_) (fun hq => dss_nil ?_))
          · have hst : bestStep f0 b p = some (p, w) := by unfold bestStep; rw [hf, q]; exact if_pos hq
            rw [hst]
            refine dss_freeze 4 rfl ?_
            exact dss_one (set 2 (v 4) rfl)
          · have hst : bestStep f0 b p = b := by unfold bestStep; rw [hf, q]; exact if_neg (by rw [hq]; exact Bool.false_ne_true)
            rw [hst]
            rfl
      · have hq : ¬ p.1 ≤ p.2 := of_decide_eq_false hq
        have hf : f0 p = none := if_neg hq
        have hst : bestStep f0 b p = b := by unfold bestStep; rw [hf]
        rw [hst]
        rfl
    · rintro ρ' rfl
      exact hK _ rfl
  cases hφ with
  | mk R h p w hw =>
    refine main R h _ fun b hb => ?_
    rw [hw] at hb
    subst hb
    have bo : bestOk _ _ (rgB R) := bestF_ok (fun p : Pr => if p.1 ≤ p.2 then wayN' R p [p] else none) (allP R)
    rw [hw] at bo
    obtain ⟨h1, h2, _⟩ := bo
    have wl : w.length ≤ 66 := by
      have h2 : (if p.1 ≤ p.2 then wayN' R p [p] else none) = some w := h2
      split at h2
      · unfold wayN' at h2
        cases q : (finW R p).find? fun x => decide (x.1 ∈ [p]) with
        | none => rw [q] at h2; cases h2
        | some x =>
          rw [q] at h2
          cases h2
          exact finW_plen p x (List.mem_of_find?_eq_some q)
      · cases h2
    refine dss_cons (ds_if (k := false) ((db_isN (ve 2)).cast (by rfl)) (fun h => by cases h) (fun _ => dss_nil ?_))
    refine dss_one (retP ((lc1 (own := [("pair", 3)]) w encP (fun c => nI c.1) (fun c => [some (.d (encR R)), some (.d (stepsD R)), some (.d (.list (w.map encP))), some (.d (encP c)), none]) (di_list (v 2)) (by omega) (fun c _ _ _ _ _ _ => gn 3) (fun c _ _ _ _ _ _ => ixT (x := nI c.1) (v 3) (de_int (q := 0)))).cast (ys := (w.map fun c : Pr => c.1).map nI) (by rw [List.map_map]; rfl)) ((lc1 (own := [("pair", 3)]) w encP (fun c => nI c.2) (fun c => [some (.d (encR R)), some (.d (stepsD R)), some (.d (.list (w.map encP))), some (.d (encP c)), none]) (di_list (v 2)) (by omega) (fun c _ _ _ _ _ _ => gn 3) (fun c _ _ _ _ _ _ => ixT (x := nI c.2) (v 3) (de_int (q := 1)))).cast (ys := (w.map fun c : Pr => c.2).map nI) (by rw [List.map_map]; rfl)) rfl)
  | non R h hw =>
    refine main R h _ fun b hb => ?_
    rw [hw] at hb
    subst hb
    exact dss_cons (ds_if (k := true) ((db_isN (ve 2)).cast (by rfl)) (fun _ => dss_one (ds_ret dk_non rfl)) (fun h => by cases h))
inductive φ_searched_backing : List PyData → Rs → Prop
  | mk (R : Rule) (h : R.ok) (b a : Nat) (hf : FirstB R b a) (hz : b + a ≤ 128) : φ_searched_backing [encR R] (.k (.tuple [nI b, nI a]))
abbrev s_searched_backing : Stmt := topS 43
theorem sc_searched_backing : FnScope ["rule", "steps", "parts", "ahead", "behind", "before", "pair"] ["rule"] (defScope s_searched_backing) := ⟨rfl, rfl, rfl, by decide +kernel, rfl, by decide +kernel, by decide +kernel⟩
theorem ok_searched_backing (T : Txt K mg c) (g_all_steps : GDef P w K mg base "all_steps" 1 φ_all_steps 3) (g_parting : GDef P w K mg base "parting" 1 φ_parting 1) (g_is_told : GDef P w K mg base "is_told" 3 φ_is_told 1) (g_led_to : GDef P w K mg base "led_to" 2 φ_led_to 1) (g_leading_to : GDef P w K mg base "leading_to" 2 φ_leading_to 1) {f : Addr} {fd : FuncData} (F : Fun K "searched" "searched" s_searched_backing f fd) : FnOk P w K mg base (L2.CX P w) 4 f fd ["rule"] (spD K φ_searched_backing 1) := by
  refine def_ok F sc_searched_backing rfl fun cdv A outer s H E hr xs o hφ hm => ?_
  have nd := sc_searched_backing.nd
  cases hφ with
  | mk R h b a hf hz =>
  have an := allP_nodup h
  have ao : ∀ p ∈ allP R, okP R p := fun p hp => (mem_allP h).mp hp
  have al := set_len h an ao
  refine dss_cons (set 1 (ck (g_all_steps.at hr) (ak (v 0)) (.mk R h)) ?_)
  refine dss_cons (setF 2 (cf (g_parting.at hr) (ak (v 1)) (.mk R h)) ?_)
  refine dss_freeze 2 rfl ?_
  show DSs _ _ _ [some (.d (encR R)), some (.d (stepsD R)), some (.d (.list ((partsN R).map encPP))), none, none, none, none] _
  have e1 : (allP R).map (fun p => PyData.tuple [encP p, .bool true]) = (trueL (allP R)).map fun q => PyData.tuple [nT q.1, q.2] := by
    unfold trueL
    rw [List.map_map]
    rfl
  refine dss_cons (setF 3 (lst (xs := [setPD (allP R)]) (ak (DT.toK (dictL (L := trueL (allP R)) hr (DF.toL ((lcT 1 (own := [("pair", 6)]) (allP R) encP (fun p => .tuple [encP p, .bool true]) (fun p => [some (.d (encR R)), some (.d (stepsD R)), some (.d (.list ((partsN R).map encPP))), none, none, none, some (.d (encP p))]) (keys_steps R) (by omega) (fun p _ _ _ _ _ _ => gn 6) (fun p _ _ _ _ _ _ => tup (ak (v 6) (ak (dk_bl))))).cast e1)) (trueL_nodup an) T.b_dict)))) ?_)
  refine dss_cons (setF 4 (lst (xs := [setPD (allP R)]) (ak (DT.toK (dictD (kvs := encQ (trueL (allP R))) hr (DK.toM (ixL (xs := [setPD (allP R)]) (x := setPD (allP R)) (vl 3) (de_int (q := 0)))) (true_int _) (true_hash an fun p hp => okP8 h (ao p hp)) T.b_dict)))) ?_)
  let la : Nat → List PyData := fun t => (List.range (t + 1)).map fun k => setPD (aheadN R k)
  let lb : Nat → List PyData := fun t => (List.range (t + 1)).map fun k => setPD (behindN R k)
  have lal : ∀ t, (la t).length = t + 1 := fun t => by show (List.map _ _).length = _; rw [List.length_map, List.length_range]
  have lbl : ∀ t, (lb t).length = t + 1 := fun t => by show (List.map _ _).length = _; rw [List.length_map, List.length_range]
  have laS : ∀ t, la (t + 1) = la t ++ [setPD (aheadN R (t + 1))] := fun t => by show List.map _ (List.range (t + 1 + 1)) = _; rw [List.range_succ, List.map_append]; rfl
  have lbS : ∀ t, lb (t + 1) = lb t ++ [setPD (behindN R (t + 1))] := fun t => by show List.map _ (List.range (t + 1 + 1)) = _; rw [List.range_succ, List.map_append]; rfl
  have laA : ∀ t k : Nat, k ≤ t → L2.atI (la t) (k : Int) = some (setPD (aheadN R k)) := fun t k hk => by
    refine atI_nat ?_
    show (List.map _ (List.range (t + 1)))[k]? = _
    rw [List.getElem?_map, List.getElem?_range (by omega)]
    rfl
  have lbA : ∀ t k : Nat, k ≤ t → L2.atI (lb t) (k : Int) = some (setPD (behindN R k)) := fun t k hk => by
    refine atI_nat ?_
    show (List.map _ (List.range (t + 1)))[k]? = _
    rw [List.getElem?_map, List.getElem?_range (by omega)]
    rfl
  have laL : ∀ t, L2.atI (la t) (-1) = some (setPD (aheadN R t)) := fun t => by
    show L2.atI (List.map _ (List.range (t + 1))) _ = _
    rw [List.range_succ, List.map_append]
    exact atI_last _ _
  have lbL : ∀ t, L2.atI (lb t) (-1) = some (setPD (behindN R t)) := fun t => by
    show L2.atI (List.map _ (List.range (t + 1))) _ = _
    rw [List.range_succ, List.map_append]
    exact atI_last _ _
  let st : Nat → Option Sl → Rho := fun t k5 => [some (.d (encR R)), some (.d (stepsD R)), some (.d (.list ((partsN R).map encPP))), some (.l (la t)), some (.l (lb t)), k5, none]
  refine dss_one (ds_while (fun m ρ => ∃ t, m = b + a + 1 - t ∧ t ≤ b + a ∧ ρ = st t none) (b + a + 1) bX_po ⟨0, by omega, by omega, rfl⟩ ?_)
  rintro m ρ' ⟨t, rfl, ht, rfl⟩
  refine ⟨true, tb (k := true) (DK.toE dk_bl), fun _ => ?_, fun h => by cases h⟩
  refine dss_cons (ds_for (List.range (t + 1)) nI [5] (fun pre ρ => ρ = st t none ∧ (t < b + a ∨ pre.length ≤ b)) bX_po rfl (fun _ => rfl) (di_rangeN T.b_range (DE.cast (DK.toE (lenL (xs := la t) (vle 3) T.b_len)) (by rw [lal])) (by omega)) ⟨rfl, .inr (Nat.zero_le _)⟩ ?_ ?_)
  · rintro pre k post ρ' hL ⟨rfl, hpre⟩
    have hk : k = pre.length := by
      have h1 : (List.range (t + 1))[pre.length]? = some k := by rw [hL]; simp
      obtain ⟨_, h2⟩ := List.getElem?_eq_some_iff.mp h1
      rw [List.getElem_range] at h2
      exact h2.symm
    have hkt : k ≤ t := by
      have := List.mem_range.mp (show k ∈ List.range (t + 1) by rw [hL]; simp)
      omega
    have toldv : φ_is_told [.list ((partsN R).map encPP), setPD (aheadN R k), setPD (behindN R (t - k))] (.k (.bool (toldN R k (t - k)))) := φ_is_told.mk (partsN R) (aheadN R k) (behindN R (t - k))
    have lbK : L2.atI (lb t) (((t + 1 - 1 - k : Nat) : Int)) = some (setPD (behindN R (t - k))) := by
      have := lbA t (t - k) (by omega)
      have e : t + 1 - 1 - k = t - k := by omega
      rw [e]
      exact this
    refine ⟨_, _, gn 5 (js := [5]), dss_one (ds_if (k := toldN R k (t - k)) (tb (ce (g_is_told.at hr) (ae (ve 2) (ae (DK.toE (ixL (xs := la t) (x := setPD (aheadN R k)) (vl 3) (ve 5) (laA t k hkt))) (ae (DK.toE (ixL (xs := lb t) (x := setPD (behindN R (t - k))) (vl 4) (DK.toE (dk_subN (m := t + 1 - 1) (m' := k) (DK.toE (dk_subN (m := t + 1) (m' := 1) (DE.cast (DK.toE (lenL (xs := la t) (vle 3) T.b_len)) (by rw [lal])) de_nat (by omega))) (ve 5) (by omega))) lbK))))) toldv)) (fun hq => ?_) (fun hq => dss_nil ?_))⟩
    · have kb : k = b ∧ t - k = a := by
        have hno := hf.2 k (t - k)
        rw [hq] at hno
        by_cases z : t < b + a
        · exact absurd (hno (.inl (by omega))) (fun z => by cases z)
        · by_cases z2 : k < b
          · exact absurd (hno (.inr ⟨by omega, z2⟩)) (fun z => by cases z)
          · rcases hpre with y | y <;> omega
      refine dss_one (ds_ret (tup (ak (v 5) (ak (dk_subN (m := t + 1 - 1) (m' := k) (DK.toE (dk_subN (m := t + 1) (m' := 1) (DE.cast (DK.toE (lenL (xs := la t) (vle 3) T.b_len)) (by rw [lal])) de_nat (by omega))) (ve 5) (by omega))))) ?_)
      show Rs.k _ = Rs.k _
      rw [kb.1, show t + 1 - 1 - b = a by omega]
    · refine ⟨rfl, ?_⟩
      by_cases z : t < b + a
      · exact .inl z
      · refine .inr ?_
        rw [List.length_append, List.length_singleton]
        rcases hpre with y | y
        · omega
        · by_cases z2 : k = b
          · have : t - k = a := by omega
            rw [z2, show t - b = a by omega, hf.1] at hq
            cases hq
          · omega
  · rintro ρ' ⟨rfl, hend⟩
    rw [List.length_range] at hend
    refine dss_cons (app 3 (xs := la t) (x := setPD (aheadN R (t + 1))) (ck (g_led_to.at hr) (ak (v 1) (ak (ixL (xs := la t) (x := setPD (aheadN R t)) (vl 3) (DK.toE (dk_neg (de_int (q := 1)))) (laL t)))) (.mk R h _ (aheadN_ok h t))) (by rw [lal, sizeLine_eq]; omega) ?_)
    refine dss_one (app 4 (xs := lb t) (x := setPD (behindN R (t + 1))) (ck (g_leading_to.at hr) (ak (v 1) (ak (ixL (xs := lb t) (x := setPD (behindN R t)) (vl 4) (DK.toE (dk_neg (de_int (q := 1)))) (lbL t)))) (.mk R h _)) (by rw [lbl, sizeLine_eq]; omega) ?_)
    refine ⟨b + a + 1 - (t + 1), by omega, t + 1, rfl, by omega, ?_⟩
    show _ = [_, _, _, some (Sl.l (la (t + 1))), some (Sl.l (lb (t + 1))), _, _]
    rw [laS, lbS]
    rfl
inductive φ_searched_ends : List PyData → Rs → Prop
  | mk (R : Rule) (h : R.ok) : φ_searched_ends [encR R] (.n (.dict (dOfT (encM (finM R)))))
abbrev s_searched_ends : Stmt := topS 53
theorem sc_searched_ends : FnScope ["rule", "found", "waiting", "ends", "sign", "fresh"] ["rule"] (defScope s_searched_ends) := ⟨rfl, rfl, rfl, by decide +kernel, rfl, by decide +kernel, by decide +kernel⟩
theorem ok_searched_ends (T : Txt K mg c) (g_first_ends : GDef P w K mg base "first_ends" 1 φ_first_ends 2) (g_further_ends : GDef P w K mg base "further_ends" 3 φ_further_ends 3) {f : Addr} {fd : FuncData} (F : Fun K "searched" "searched" s_searched_ends f fd) : FnOk P w K mg base (L2.CX P w) 4 f fd ["rule"] (spD K φ_searched_ends 1) := by
  refine def_ok F sc_searched_ends rfl fun cdv A outer s H E hr xs o hφ hm => ?_
  have nd := sc_searched_ends.nd
  cases hφ with
  | mk R h =>
  have s4 := h.s4
  have ml := manyE_le h
  refine dss_cons (setD1 1 true hr (ce (g_first_ends.at hr) (ae (ve 0)) (.mk R h)) (DF.toN (lst dak_nil) (by simp)) ?_)
  refine dss_cons (setF 2 (lst (ak (ck (g_first_ends.at hr) (ak (v 0)) (.mk R h)))) ?_)
  refine dss_cons (ds_while (fun m ρ => ∃ i, m = 300 - i ∧ i ≤ (runM R i).length ∧ ∃ a, ρ = [some (.d (encR R)), some (.t true (encM (runM R i))), some (.l (waitD (runM R i) i)), a, none, none]) 300 bX_po ⟨0, rfl, Nat.zero_le _, none, rfl⟩ ?_)
  rintro m ρ' ⟨i, rfl, hi, a, rfl⟩
  have l256 := runM_len h i
  refine ⟨decide (i < (runM R i).length), DB.cast (db_neD hr (vle 2) (lst dak_nil).toE (shp_list (shp_tups _ _)).ok (shp_list (k := 0) (by simp)).ok) ?_, fun hk => ?_, fun hk => ?_⟩
  · rw [eqv_list, eqvAll_nil]
    by_cases hq : i < (runM R i).length
    · rw [decide_eq_true hq, decide_eq_false (by rw [List.map_eq_nil_iff, List.drop_eq_nil_iff]; omega)]; rfl
    · rw [decide_eq_false hq, decide_eq_true (by rw [List.map_eq_nil_iff, List.drop_eq_nil_iff]; omega)]; rfl
  · have hil : i < (runM R i).length := of_decide_eq_true hk
    have ei : (runM R i)[i]? = some (runM R i)[i] := List.getElem?_eq_getElem hil
    generalize (runM R i)[i] = p at ei
    obtain ⟨hpe, hps⟩ := runM_ends R i p (List.mem_of_getElem? ei)
    have hpl := runM_plen R i p (List.mem_of_getElem? ei)
    have pe1 := endsN_lt R p.2
    have pe2 := endsN_len R p.2
    rw [hpe] at pe1 pe2
    rw [waitD_cons ei]
    refine dss_cons (popL0 3 2 (xs := waitD (runM R i) (i + 1)) ?_ (by decide))
    refine dss_one (ds_for (List.range R.s) nI [4, 5] (fun pre ρ => ρ = [some (.d (encR R)), some (.t true (encM (pre.foldl (growM R p.1 p.2) (runM R i)))), some (.l (waitD (pre.foldl (growM R p.1 p.2) (runM R i)) (i + 1))), some (.d (nT p.1)), none, none]) bX_po rfl (fun _ => rfl) (di_rangeN T.b_range (ixT (v 0) (de_int (q := 0))).toE (by omega)) rfl ?_ ?_)
    · intro pre sg post ρ' hL hρ
      subst hρ
      have hpre := (part_pre ei hL).length_le
      have l257 := runM_len h (i + 1)
      have hgl := (grow_pre R p.1 p.2 pre (runM R i)).length_le
      have hlk : lookT (encM (pre.foldl (growM R p.1 p.2) (runM R i))) (keyN p.1) = some (nL p.2) := by rw [look_enc, part_look ei pre]; rfl
      have hgrow : (pre ++ [sg]).foldl (growM R p.1 p.2) (runM R i) = growM R p.1 p.2 (pre.foldl (growM R p.1 p.2) (runM R i)) sg := by rw [List.foldl_append]; rfl
      rw [hgrow]
      generalize pre.foldl (growM R p.1 p.2) (runM R i) = m at hpre hgl hlk ⊢
      refine ⟨_, _, gn 4 (js := [4, 5]), dss_cons (set 5 (ck (g_further_ends.at hr) (ak (v 0) (ak (v 3) (ak (v 4)))) (.mk R h p.1 sg pe1 (by omega))) ?_)⟩
      refine dss_one (ds_if (db_ninM hr (ve 5) (vm 1)) (fun hq => ?_) (fun hq => dss_nil ?_))
      · rw [look_enc_some] at hq
        have hnk : furtherN R p.1 sg ∉ keysM m := by simpa using hq
        have hgm : growM R p.1 p.2 m sg = m ++ [(furtherN R p.1 sg, p.2 ++ [sg])] := by unfold growM putM; rw [if_neg hnk]
        refine dss_cons (putT 1 (kvs := encM m) hr (DF.toN ((df_cat (dk_ixD hr (vm 1) (ve 3) hlk).toL (lst (ak (v 4))).toL (by rw [List.length_map, sizeLine_eq]; show _ + 1 ≤ _; omega)).cast (ys := (p.2 ++ [sg]).map nI) (by rw [List.map_append]; rfl)) nmap_scal) (ve 5) (by rw [encM_len]; omega) ?_)
        rw [put_enc hnk]
        refine dss_one (app 2 (xs := waitD m (i + 1)) (v 5) (by unfold waitD; rw [List.length_map, List.length_drop, sizeLine_eq]; omega) ?_)
        show _ = _
        rw [hgm, waitD_snoc (by omega)]
        rfl
      · rw [look_enc_some] at hq
        have hnk : furtherN R p.1 sg ∈ keysM m := by simpa using hq
        have hgm : growM R p.1 p.2 m sg = m := by unfold growM putM; rw [if_pos hnk]
        show _ = _
        rw [hgm]
        rfl
    · intro ρ' hp
      subst hp
      refine ⟨300 - (i + 1), by omega, i + 1, rfl, ?_, some (.d (nT p.1)), ?_⟩
      · have := (stepM_pre R (runM R i) i).length_le
        show _ ≤ (stepM R (runM R i) i).length
        omega
      · rw [run_step ei]
  · have hil : ¬ i < (runM R i).length := of_decide_eq_false hk
    rw [← runM_fin h (i := i) (by omega) (by omega)]
    exact dss_one (retTn 1 rfl)
inductive φ_need_piece (c : Cs) : List PyData → Rs → Prop
  | mk (R : Rule) (h : R.ok) (l : List Nat) (m : Nat) (hl : ∀ x ∈ l, x < R.s) (hz : l.length ≤ 1000000) (hm : m ≤ l.length) : φ_need_piece c [encR R, nL l, nI m] (.k .none)
  | few (R : Rule) (h : R.ok) (l : List Nat) (m : Nat) (hl : ∀ x ∈ l, x < R.s) (hz : l.length ≤ 1000000) (hm : l.length < m) : φ_need_piece c [encR R, nL l, nI m] (.raise c.BadRow)
  | bad (R : Rule) (h : R.ok) (x y : PyData) (hx : plainD x) (hl : ∀ l, x = .list l → l.length ≤ 1000000) (hp : pieceD R.s x = false) : φ_need_piece c [encR R, x, y] (.raise c.BadRow)
abbrev s_need_piece : Stmt := topS 19
theorem sc_need_piece : FnScope ["rule", "piece", "least"] ["rule", "piece", "least"] (defScope s_need_piece) := ⟨rfl, rfl, rfl, by decide +kernel, rfl, by decide +kernel, by decide +kernel⟩
theorem ok_need_piece (T : Txt K mg c) (g_is_piece : GDef P w K mg base "is_piece" 2 (φ_is_piece c) 4) {f : Addr} {fd : FuncData} (F : Fun K "need_piece" "need_piece" s_need_piece f fd) : FnOk P w K mg base (L2.CX P w) 5 f fd ["rule", "piece", "least"] (spD K (φ_need_piece c) 3) := by
  refine def_ok F sc_need_piece rfl fun cdv A outer s H E hr xs o hφ hm => ?_
  have nd := sc_need_piece.nd
  have pl : ∀ l : List Nat, l.length ≤ 1000000 → plainD (nL l) ∧ ∀ l', nL l = .list l' → l'.length ≤ 1000000 := fun l hl => ⟨fun _ => ⟨_, rfl⟩, fun l' e => by cases e; simpa using hl⟩
  cases hφ with
  | mk R h l m hl hz hm2 =>
    refine dss_one (ds_if (DW.toB (dw_or (db_not (tb (ce (g_is_piece.at hr) (ae (ve 0) (ae (ve 1))) (.mk R h _ (pl l hz).1 (pl l hz).2)))) fun _ => dw_or1 (db_ltN (lenL (ve 1) T.b_len).toE (ve 2)))) (fun h2 => ?_) (fun _ => dss_nil rfl))
    rw [pieceD_nL hl, List.length_map, decide_eq_false (by omega)] at h2
    cases h2
  | few R h l m hl hz hm2 =>
    refine dss_one (ds_if (DW.toB (dw_or (db_not (tb (ce (g_is_piece.at hr) (ae (ve 0) (ae (ve 1))) (.mk R h _ (pl l hz).1 (pl l hz).2)))) fun _ => dw_or1 (db_ltN (lenL (ve 1) T.b_len).toE (ve 2)))) (fun h2 => dss_one (raise T.x_BadRow bX_takes rfl)) (fun h2 => ?_))
    rw [List.length_map, decide_eq_true hm2, Bool.or_true] at h2
    cases h2
  | bad R h x y hx hl hp =>
    refine dss_one (ds_if (k := true) ?_ (fun h2 => dss_one (raise T.x_BadRow bX_takes rfl)) (fun h2 => by cases h2))
    show DB _ _ _ (!false || false)
    exact DW.toB (dw_or (db_not (tb (ce (g_is_piece.at hr) (ae (ve 0) (ae (ve 1))) (by have := φ_is_piece.mk (c := c) R h x hx hl; rw [hp] at this; exact this)))) (fun h => by cases h))
inductive φ_bounds : List PyData → Rs → Prop
  | mk (R : Rule) (h : R.ok) (b a : Nat) (hf : FirstB R b a) (hz : b + a ≤ 128) (hn : rgB R = none) : φ_bounds [encR R] (.k (.tuple [nI b, nI a]))
  | non (R : Rule) (h : R.ok) (p : Pr) (w : List Pr) (hw : rgB R = some (p, w)) : φ_bounds [encR R] (.k .none)
abbrev s_bounds : Stmt := topS 45
theorem sc_bounds : FnScope ["rule"] ["rule"] (defScope s_bounds) := ⟨rfl, rfl, rfl, by decide +kernel, rfl, by decide +kernel, by decide +kernel⟩
theorem ok_bounds (T : Txt K mg c) (g_need_rule : GDef P w K mg base "need_rule" 1 (φ_need_rule c) 3) (g_searched_backing : GDef P w K mg base "searched_backing" 1 φ_searched_backing 4) (g_rings : GDef P w K mg base "rings" 1 φ_rings 4) {f : Addr} {fd : FuncData} (F : Fun K "bounds" "bounds" s_bounds f fd) : FnOk P w K mg base (L2.CX P w) 5 f fd ["rule"] (spD K φ_bounds 1) := by
  refine def_ok F sc_bounds rfl fun cdv A outer s H E hr xs o hφ hm => ?_
  have nd := sc_bounds.nd
  cases hφ with
  | mk R h b a hf hz hn =>
    refine dss_cons (expr (ce (g_need_rule.at hr) (ae (ve 0)) (.mk _ (isRule_enc h))) ?_)
    refine dss_cons (ds_if (k := false) ((db_notN (ce (g_rings.at hr) (ae (ve 0)) (.non R h hn))).cast (by rfl)) (fun h => by cases h) (fun _ => dss_nil ?_))
    exact dss_one (ds_ret (ck (g_searched_backing.at hr) (ak (v 0)) (.mk R h b a hf hz)) rfl)
  | non R h p w hw =>
    refine dss_cons (expr (ce (g_need_rule.at hr) (ae (ve 0)) (.mk _ (isRule_enc h))) ?_)
    refine dss_cons (ds_if (k := true) ((db_notN (ceP (g_rings.at hr) (ak (v 0)) (.mk R h p w hw))).cast (by rfl)) (fun _ => dss_one (ds_ret dk_non rfl)) (fun h => by cases h))
inductive φ_told_back : List PyData → Rs → Prop
  | mk (R : Rule) (h : R.ok) (b a : Nat) (l : List Nat) (hz : l.length ≤ 10000) (hs : b + 1 + a ≤ l.length) (ho : ∀ p, p + (b + 1 + a) ≤ l.length → ∃ cs, leastN R ((l.drop p).take (b + 1 + a)) = some cs ∧ cs.length = b + 1 + a + (R.w - 1)) : φ_told_back [encR R, nL l, nT [b, a]] (.f ((tellN R b a l).map nI))
abbrev s_told_back : Stmt := topS 47
theorem sc_told_back : FnScope ["rule", "piece", "pair", "found", "size", "place", "origin"] ["rule", "piece", "pair"] (defScope s_told_back) := ⟨rfl, rfl, rfl, by decide +kernel, rfl, by decide +kernel, by decide +kernel⟩
theorem ok_told_back (T : Txt K mg c) (g_least_origin : GDef P w K mg base "least_origin" 2 φ_least_origin 4) {f : Addr} {fd : FuncData} (F : Fun K "told_back" "told_back" s_told_back f fd) : FnOk P w K mg base (L2.CX P w) 5 f fd ["rule", "piece", "pair"] (spD K φ_told_back 3) := by
  refine def_ok F sc_told_back rfl fun cdv A outer s H E hr xs o hφ hm => ?_
  have nd := sc_told_back.nd
  cases hφ with
  | mk R h b a l hz hs ho =>
  have w1 := h.w1
  have w4 := h.w4
  refine dss_cons (setF 3 (lst dak_nil) ?_)
  refine dss_cons (set 4 (dk_addN (m := b + 1) (m' := a) (DK.toE (dk_addN (m := b) (m' := 1) (DK.toE (ixT (xs := [nI b, nI a]) (x := nI b) (v 2) (de_int (q := 0)))) de_nat)) (DK.toE (ixT (xs := [nI b, nI a]) (x := nI a) (v 2) (de_int (q := 1))))) ?_)
  let g : Nat → Nat := fun p => ((leastN R ((l.drop p).take (b + 1 + a))).getD []).getD (b + (R.w - 1)) 0
  have eL : l.length - (b + 1 + a) + 1 = l.length + 1 - (b + 1 + a) := by omega
  refine dss_cons (ds_for (List.range (l.length + 1 - (b + 1 + a))) nI [5, 6] (fun pre ρ => ρ = [some (.d (encR R)), some (.d (nL l)), some (.d (nT [b, a])), some (.l ((pre.map g).map nI)), some (.d (nI (b + 1 + a))), none, none]) bX_po rfl (fun _ => rfl) (di_rangeN T.b_range (DE.cast (DK.toE (dk_addN (m := l.length - (b + 1 + a)) (m' := 1) (DK.toE (dk_subN (m := l.length) (m' := b + 1 + a) (DE.cast (DK.toE (lenL (xs := l.map nI) (ve 1) T.b_len)) (by rw [List.length_map])) (ve 4) hs)) de_nat)) (by rw [eL])) (by omega)) rfl ?_ ?_)
  · rintro pre p post ρ' hL rfl
    have hp : p < l.length + 1 - (b + 1 + a) := List.mem_range.mp (by rw [hL]; simp)
    have hpl : pre.length ≤ 10001 := by
      have := congrArg List.length hL
      rw [List.length_range, List.length_append] at this
      omega
    obtain ⟨cs, hc, lc⟩ := ho p (by omega)
    refine ⟨_, _, gn 5 (js := [5, 6]), ?_⟩
    refine dss_cons (setF 6 (cf (g_least_origin.at hr) (ak (v 0) (ak (DF.toK ((sl (v 1).toL (do_some (ve 5)) (do_some (DK.toE (dk_addN (m := p) (m' := b + 1 + a) (ve 5) (ve 4))))).cast (ys := ((l.drop p).take (b + 1 + a)).map nI) (cutD_nn l nI p (b + 1 + a) (by omega)))))) (.mk R h _ cs (by rw [List.length_take]; omega) hc)) ?_)
    have hat : L2.atI (cs.map nI) ((b + R.w - 1 : Nat) : Int) = some (nI (g p)) := by
      have e : g p = cs.getD (b + R.w - 1) 0 := by
        show ((leastN R ((l.drop p).take (b + 1 + a))).getD []).getD (b + (R.w - 1)) 0 = _
        rw [hc]
        show cs.getD _ 0 = _
        congr 1
        omega
      rw [e]
      exact atI_map cs nI (b + R.w - 1) 0 (by omega)
    refine dss_one (app 3 (xs := (pre.map g).map nI) (x := nI (g p)) (ixL (xs := cs.map nI) (x := nI (g p)) (vl 6) (DK.toE (dk_subN (m := b + R.w) (m' := 1) (DK.toE (dk_addN (m := b) (m' := R.w) (DK.toE (ixT (xs := [nI b, nI a]) (x := nI b) (v 2) (de_int (q := 0)))) (DK.toE (ixT (x := nI R.w) (v 0) (de_int (q := 1)))))) de_nat (by omega))) hat) (by rw [List.length_map, List.length_map, sizeLine_eq]; omega) ?_)
    show _ = _
    rw [List.map_append, List.map_append]
    rfl
  · rintro ρ' rfl
    exact dss_one (retO 3 rfl)
inductive φ_missing : List PyData → Rs → Prop
  | mk (R : Rule) (h : R.ok) (u : List Nat) (hu : lookM (finM R) [] = some u) : φ_missing [encR R] (.f (u.map nI))
  | non (R : Rule) (h : R.ok) (hu : lookM (finM R) [] = none) : φ_missing [encR R] (.k .none)
abbrev s_missing : Stmt := topS 55
theorem sc_missing : FnScope ["rule"] ["rule"] (defScope s_missing) := ⟨rfl, rfl, rfl, by decide +kernel, rfl, by decide +kernel, by decide +kernel⟩
theorem ok_missing (T : Txt K mg c) (g_need_rule : GDef P w K mg base "need_rule" 1 (φ_need_rule c) 3) (g_searched_ends : GDef P w K mg base "searched_ends" 1 φ_searched_ends 4) {f : Addr} {fd : FuncData} (F : Fun K "missing" "missing" s_missing f fd) : FnOk P w K mg base (L2.CX P w) 5 f fd ["rule"] (spD K φ_missing 1) := by
  refine def_ok F sc_missing rfl fun cdv A outer s H E hr xs o hφ hm => ?_
  have nd := sc_missing.nd
  cases hφ with
  | mk R h u hu =>
    refine dss_cons (expr (ce (g_need_rule.at hr) (ae (ve 0)) (.mk _ (isRule_enc h))) ?_)
    exact dss_one (ds_retF (DV.toF (dv_get (l := []) hr (cn (g_searched_ends.at hr) (ak (v 0)) (.mk R h)) (tup dak_nil).toE dk_non.toE (by rw [look_enc, hu]; rfl)) nmap_scal) rfl)
  | non R h hu =>
    refine dss_cons (expr (ce (g_need_rule.at hr) (ae (ve 0)) (.mk _ (isRule_enc h))) ?_)
    exact dss_one (ds_ret (dk_getN (l := []) hr (cn (g_searched_ends.at hr) (ak (v 0)) (.mk R h)) (tup dak_nil).toE dk_non.toE rfl (by rw [look_enc, hu]; rfl)) rfl)
inductive φ_piece_on (c : Cs) : List PyData → Rs → Prop
  | mk (R : Rule) (h : R.ok) (l : List Nat) (hl : ∀ x ∈ l, x < R.s) (hz : l.length ≤ 1000000) (hm : R.w - 1 ≤ l.length) : φ_piece_on c [encR R, nL l] (.f ((on R l).map nI))
  | few (R : Rule) (h : R.ok) (l : List Nat) (hl : ∀ x ∈ l, x < R.s) (hz : l.length ≤ 1000000) (hm : l.length < R.w - 1) : φ_piece_on c [encR R, nL l] (.raise c.BadRow)
  | bad (R : Rule) (h : R.ok) (x : PyData) (hx : plainD x) (hl : ∀ l, x = .list l → l.length ≤ 1000000) (hp : pieceD R.s x = false) : φ_piece_on c [encR R, x] (.raise c.BadRow)
  | rule (r x : PyData) (h : isRuleD r = false) : φ_piece_on c [r, x] (.raise c.BadRule)
abbrev s_piece_on : Stmt := topS 21
theorem sc_piece_on : FnScope ["rule", "piece"] ["rule", "piece"] (defScope s_piece_on) := ⟨rfl, rfl, rfl, by decide +kernel, rfl, by decide +kernel, by decide +kernel⟩
theorem ok_piece_on (T : Txt K mg c) (g_need_rule : GDef P w K mg base "need_rule" 1 (φ_need_rule c) 3) (g_need_piece : GDef P w K mg base "need_piece" 3 (φ_need_piece c) 5) (g_told_by : GDef P w K mg base "told_by" 2 φ_told_by 2) {f : Addr} {fd : FuncData} (F : Fun K "piece_on" "piece_on" s_piece_on f fd) : FnOk P w K mg base (L2.CX P w) 6 f fd ["rule", "piece"] (spD K (φ_piece_on c) 2) := by
  refine def_ok F sc_piece_on rfl fun cdv A outer s H E hr xs o hφ hm => ?_
  have nd := sc_piece_on.nd
  cases hφ with
  | mk R h l hl hz hm2 =>
    refine dss_cons (expr (ce (g_need_rule.at hr) (ae (ve 0)) (.mk _ (isRule_enc h))) ?_)
    refine dss_cons (expr (ce (g_need_piece.at hr) (ae (ve 0) (ae (ve 1) (ae (dk_subN (ixT (v 0) (de_int (q := 1))).toE de_nat h.w1).toE))) (.mk R h l _ hl hz hm2)) ?_)
    exact dss_one (ds_retF (cf (g_told_by.at hr) (ak (v 0) (ak (v 1))) (.mk R h l hl hz hm2)) rfl)
  | few R h l hl hz hm2 =>
    refine dss_cons (expr (ce (g_need_rule.at hr) (ae (ve 0)) (.mk _ (isRule_enc h))) ?_)
    exact dss_cons (exprR (cr bX_takes (g_need_piece.at hr) (ae (ve 0) (ae (ve 1) (ae (dk_subN (ixT (v 0) (de_int (q := 1))).toE de_nat h.w1).toE))) (.few R h l _ hl hz hm2)) rfl)
  | bad R h x hx hl hp =>
    refine dss_cons (expr (ce (g_need_rule.at hr) (ae (ve 0)) (.mk _ (isRule_enc h))) ?_)
    exact dss_cons (exprR (cr bX_takes (g_need_piece.at hr) (ae (ve 0) (ae (ve 1) (ae (dk_subN (ixT (v 0) (de_int (q := 1))).toE de_nat h.w1).toE))) (.bad R h x _ hx hl hp)) rfl)
  | rule r x h =>
    exact dss_cons (exprR (cr bX_takes (g_need_rule.at hr) (ae (ve 0)) (.bad r h)) rfl)
inductive φ_ring_on (c : Cs) : List PyData → Rs → Prop
  | mk (R : Rule) (h : R.ok) (l : List Nat) (hl : ∀ x ∈ l, x < R.s) (hz : l.length ≤ 100000) (hm : l ≠ []) : φ_ring_on c [encR R, nL l] (.f ((onRing R l).map nI))
  | few (R : Rule) (h : R.ok) : φ_ring_on c [encR R, nL []] (.raise c.BadRow)
  | bad (R : Rule) (h : R.ok) (x : PyData) (hx : plainD x) (hl : ∀ l, x = .list l → l.length ≤ 1000000) (hp : pieceD R.s x = false) : φ_ring_on c [encR R, x] (.raise c.BadRow)
  | rule (r x : PyData) (h : isRuleD r = false) : φ_ring_on c [r, x] (.raise c.BadRule)
abbrev s_ring_on : Stmt := topS 23
theorem sc_ring_on : FnScope ["rule", "ring"] ["rule", "ring"] (defScope s_ring_on) := ⟨rfl, rfl, rfl, by decide +kernel, rfl, by decide +kernel, by decide +kernel⟩
theorem ok_ring_on (T : Txt K mg c) (g_need_rule : GDef P w K mg base "need_rule" 1 (φ_need_rule c) 3) (g_need_piece : GDef P w K mg base "need_piece" 3 (φ_need_piece c) 5) (g_told_by : GDef P w K mg base "told_by" 2 φ_told_by 2) (g_around : GDef P w K mg base "around" 2 φ_around 1) {f : Addr} {fd : FuncData} (F : Fun K "ring_on" "ring_on" s_ring_on f fd) : FnOk P w K mg base (L2.CX P w) 6 f fd ["rule", "ring"] (spD K (φ_ring_on c) 2) := by
  refine def_ok F sc_ring_on rfl fun cdv A outer s H E hr xs o hφ hm => ?_
  have nd := sc_ring_on.nd
  cases hφ with
  | mk R h l hl hz hm2 =>
    have hp : 0 < l.length := List.length_pos_iff.mpr hm2
    have w1 := h.w1
    have w4 := h.w4
    refine dss_cons (expr (ce (g_need_rule.at hr) (ae (ve 0)) (.mk _ (isRule_enc h))) ?_)
    refine dss_cons (expr (ce (g_need_piece.at hr) (ae (ve 0) (ae (ve 1) (ae (de_nat (m := 1))))) (.mk R h l _ hl (by omega) (by omega))) ?_)
    exact dss_one (ds_retF (cf (g_told_by.at hr) (ak (v 0) (ak (cf (g_around.at hr) (ak (v 1) (ak (dk_subN (ixT (v 0) (de_int (q := 1))).toE de_nat w1))) (.mk l _ hm2 (by omega))).toK)) (.mk R h _ (around_lt hl hp) (by rw [around_len]; omega) (by rw [around_len]; omega))) rfl)
  | few R h =>
    refine dss_cons (expr (ce (g_need_rule.at hr) (ae (ve 0)) (.mk _ (isRule_enc h))) ?_)
    exact dss_cons (exprR (cr bX_takes (g_need_piece.at hr) (ae (ve 0) (ae (ve 1) (ae (de_nat (m := 1))))) (.few R h [] 1 (by simp) (by simp) (by simp))) rfl)
  | bad R h x hx hl hp =>
    refine dss_cons (expr (ce (g_need_rule.at hr) (ae (ve 0)) (.mk _ (isRule_enc h))) ?_)
    exact dss_cons (exprR (cr bX_takes (g_need_piece.at hr) (ae (ve 0) (ae (ve 1) (ae (de_nat (m := 1))))) (.bad R h x _ hx hl hp)) rfl)
  | rule r x h =>
    exact dss_cons (exprR (cr bX_takes (g_need_rule.at hr) (ae (ve 0)) (.bad r h)) rfl)
inductive φ_need_bounds (c : Cs) : List PyData → Rs → Prop
  | mk (R : Rule) (h : R.ok) (b a : Nat) (hf : FirstB R b a) (hz : b + a ≤ 128) (hn : rgB R = none) : φ_need_bounds c [encR R] (.k (nT [b, a]))
  | non (R : Rule) (h : R.ok) (p : Pr) (w : List Pr) (hw : rgB R = some (p, w)) : φ_need_bounds c [encR R] (.raise c.NoBack)
abbrev s_need_bounds : Stmt := topS 46
theorem sc_need_bounds : FnScope ["rule", "found"] ["rule"] (defScope s_need_bounds) := ⟨rfl, rfl, rfl, by decide +kernel, rfl, by decide +kernel, by decide +kernel⟩
theorem ok_need_bounds (T : Txt K mg c) (g_bounds : GDef P w K mg base "bounds" 1 φ_bounds 5) {f : Addr} {fd : FuncData} (F : Fun K "need_bounds" "need_bounds" s_need_bounds f fd) : FnOk P w K mg base (L2.CX P w) 6 f fd ["rule"] (spD K (φ_need_bounds c) 1) := by
  refine def_ok F sc_need_bounds rfl fun cdv A outer s H E hr xs o hφ hm => ?_
  have nd := sc_need_bounds.nd
  cases hφ with
  | mk R h b a hf hz hn =>
    refine dss_cons (set 1 (x := nT [b, a]) (ck (g_bounds.at hr) (ak (v 0)) (.mk R h b a hf hz hn)) ?_)
    refine dss_cons (ds_if (k := false) ((db_isN (ve 1)).cast (by rfl)) (fun h => by cases h) (fun _ => dss_nil ?_))
    exact dss_one (ds_ret (v 1) rfl)
  | non R h p w hw =>
    refine dss_cons (set 1 (x := .none) (ck (g_bounds.at hr) (ak (v 0)) (.non R h p w hw)) ?_)
    exact dss_cons (ds_if (k := true) ((db_isN (ve 1)).cast (by rfl)) (fun _ => dss_one (raise T.x_NoBack bX_takes rfl)) (fun h => by cases h))
inductive φ_piece_back (c : Cs) : List PyData → Rs → Prop
  | mk (R : Rule) (h : R.ok) (b a : Nat) (hf : FirstB R b a) (hz : b + a ≤ 128) (hn : rgB R = none) (x : List Nat) (wx : Wd R x) (lx : x.length ≤ 5000) (hl : b + 1 + a ≤ (on R x).length) : φ_piece_back c [encR R, nL (on R x)] (.f (((x.drop (b + (R.w - 1))).take ((on R x).length + 1 - (b + 1 + a))).map nI))
  | short (R : Rule) (h : R.ok) (b a : Nat) (hf : FirstB R b a) (hz : b + a ≤ 128) (hn : rgB R = none) (l : List Nat) (wl : Wd R l) (hl : l.length < b + 1 + a) : φ_piece_back c [encR R, nL l] (.raise c.BadRow)
  | non (R : Rule) (h : R.ok) (p : Pr) (w : List Pr) (hw : rgB R = some (p, w)) (l : List Nat) (wl : Wd R l) (ll : l.length ≤ 1000) : φ_piece_back c [encR R, nL l] (.raise c.NoBack)
  | bad (R : Rule) (h : R.ok) (x : PyData) (hx : plainD x) (hl : ∀ l, x = .list l → l.length ≤ 1000000) (hp : pieceD R.s x = false) : φ_piece_back c [encR R, x] (.raise c.BadRow)
abbrev s_piece_back : Stmt := topS 48
theorem sc_piece_back : FnScope ["rule", "piece", "pair"] ["rule", "piece"] (defScope s_piece_back) := ⟨rfl, rfl, rfl, by decide +kernel, rfl, by decide +kernel, by decide +kernel⟩
theorem ok_piece_back (T : Txt K mg c) (g_need_rule : GDef P w K mg base "need_rule" 1 (φ_need_rule c) 3) (g_need_piece : GDef P w K mg base "need_piece" 3 (φ_need_piece c) 5) (g_need_bounds : GDef P w K mg base "need_bounds" 1 (φ_need_bounds c) 6) (g_told_back : GDef P w K mg base "told_back" 3 φ_told_back 5) {f : Addr} {fd : FuncData} (F : Fun K "piece_back" "piece_back" s_piece_back f fd) : FnOk P w K mg base (L2.CX P w) 7 f fd ["rule", "piece"] (spD K (φ_piece_back c) 2) := by
  refine def_ok F sc_piece_back rfl fun cdv A outer s H E hr xs o hφ hm => ?_
  have nd := sc_piece_back.nd
  cases hφ with
  | mk R h b a hf hz hn x wx lx hl =>
    have w1 := h.w1
    have ol := on_len R x
    have key := tell_on h hf.1 wx
    have wins : ∀ p, p + (b + 1 + a) ≤ (on R x).length → ∃ cs, leastN R (((on R x).drop p).take (b + 1 + a)) = some cs ∧ cs.length = b + 1 + a + (R.w - 1) := fun p hp => tell_some h wx (by omega) hp
    have wr : Wd R (on R x) := fun c hc => on_lt h wx c hc
    generalize on R x = r at ol key wins wr hl ⊢
    refine dss_cons (expr (ce (g_need_rule.at hr) (ae (ve 0)) (.mk _ (isRule_enc h))) ?_)
    refine dss_cons (expr (ce (g_need_piece.at hr) (ae (ve 0) (ae (ve 1) (ae (de_nat (m := 0))))) (.mk R h r _ wr (by omega) (by omega))) ?_)
    refine dss_cons (set 2 (x := nT [b, a]) (ck (g_need_bounds.at hr) (ak (v 0)) (.mk R h b a hf hz hn)) ?_)
    refine dss_cons (ds_if (k := false) ((db_ltN (m1 := r.length) (m2 := b + 1 + a) (DE.cast (DK.toE (lenL (xs := r.map nI) (ve 1) T.b_len)) (by rw [List.length_map])) (DK.toE (dk_addN (m := b + 1) (m' := a) (DK.toE (dk_addN (m := b) (m' := 1) (DK.toE (ixT (xs := [nI b, nI a]) (x := nI b) (v 2) (de_int (q := 0)))) de_nat)) (DK.toE (ixT (xs := [nI b, nI a]) (x := nI a) (v 2) (de_int (q := 1))))))).cast (decide_eq_false (by omega))) (fun h => by cases h) (fun _ => dss_nil ?_))
    refine dss_one (ds_retF (cf (g_told_back.at hr) (ak (v 0) (ak (v 1) (ak (v 2)))) (.mk R h b a r (by omega) hl wins)) ?_)
    show Rs.f _ = Rs.f _
    rw [key]
  | short R h b a hf hz hn l wl hl =>
    refine dss_cons (expr (ce (g_need_rule.at hr) (ae (ve 0)) (.mk _ (isRule_enc h))) ?_)
    refine dss_cons (expr (ce (g_need_piece.at hr) (ae (ve 0) (ae (ve 1) (ae (de_nat (m := 0))))) (.mk R h l _ wl (by omega) (by omega))) ?_)
    refine dss_cons (set 2 (x := nT [b, a]) (ck (g_need_bounds.at hr) (ak (v 0)) (.mk R h b a hf hz hn)) ?_)
    exact dss_cons (ds_if (k := true) ((db_ltN (m1 := l.length) (m2 := b + 1 + a) (DE.cast (DK.toE (lenL (xs := l.map nI) (ve 1) T.b_len)) (by rw [List.length_map])) (DK.toE (dk_addN (m := b + 1) (m' := a) (DK.toE (dk_addN (m := b) (m' := 1) (DK.toE (ixT (xs := [nI b, nI a]) (x := nI b) (v 2) (de_int (q := 0)))) de_nat)) (DK.toE (ixT (xs := [nI b, nI a]) (x := nI a) (v 2) (de_int (q := 1))))))).cast (decide_eq_true hl)) (fun _ => dss_one (raise T.x_BadRow bX_takes rfl)) (fun h => by cases h))
  | non R h p w hw l wl ll =>
    refine dss_cons (expr (ce (g_need_rule.at hr) (ae (ve 0)) (.mk _ (isRule_enc h))) ?_)
    refine dss_cons (expr (ce (g_need_piece.at hr) (ae (ve 0) (ae (ve 1) (ae (de_nat (m := 0))))) (.mk R h l _ wl (by omega) (by omega))) ?_)
    exact dss_cons (ds_setR 2 nd rfl (Or.inl rfl) (.inl rfl) (by rfl) (cr bX_takes (g_need_bounds.at hr) (ae (ve 0)) (.non R h p w hw)) rfl)
  | bad R h x hx hl hp =>
    refine dss_cons (expr (ce (g_need_rule.at hr) (ae (ve 0)) (.mk _ (isRule_enc h))) ?_)
    exact dss_cons (exprR (cr bX_takes (g_need_piece.at hr) (ae (ve 0) (ae (ve 1) (ae (de_nat (m := 0))))) (.bad R h x _ hx hl hp)) rfl)
inductive φ_ring_back (c : Cs) : List PyData → Rs → Prop
  | mk (R : Rule) (h : R.ok) (b a : Nat) (hf : FirstB R b a) (hz : b + a ≤ 128) (hn : rgB R = none) (x : List Nat) (wx : Wd R x) (hx : x ≠ []) (lx : x.length ≤ 1000) : φ_ring_back c [encR R, nL (onRing R x)] (.f (x.map nI))
  | non (R : Rule) (h : R.ok) (p : Pr) (w : List Pr) (hw : rgB R = some (p, w)) (l : List Nat) (wl : Wd R l) (hl : l ≠ []) (ll : l.length ≤ 1000) : φ_ring_back c [encR R, nL l] (.raise c.NoBack)
  | few (R : Rule) (h : R.ok) : φ_ring_back c [encR R, nL []] (.raise c.BadRow)
  | bad (R : Rule) (h : R.ok) (x : PyData) (hx : plainD x) (hl : ∀ l, x = .list l → l.length ≤ 1000000) (hp : pieceD R.s x = false) : φ_ring_back c [encR R, x] (.raise c.BadRow)
abbrev s_ring_back : Stmt := topS 49
theorem sc_ring_back : FnScope ["rule", "ring", "pair", "first", "turned"] ["rule", "ring"] (defScope s_ring_back) := ⟨rfl, rfl, rfl, by decide +kernel, rfl, by decide +kernel, by decide +kernel⟩
theorem ok_ring_back (T : Txt K mg c) (g_need_rule : GDef P w K mg base "need_rule" 1 (φ_need_rule c) 3) (g_need_piece : GDef P w K mg base "need_piece" 3 (φ_need_piece c) 5) (g_need_bounds : GDef P w K mg base "need_bounds" 1 (φ_need_bounds c) 6) (g_told_back : GDef P w K mg base "told_back" 3 φ_told_back 5) (g_around : GDef P w K mg base "around" 2 φ_around 1) {f : Addr} {fd : FuncData} (F : Fun K "ring_back" "ring_back" s_ring_back f fd) : FnOk P w K mg base (L2.CX P w) 7 f fd ["rule", "ring"] (spD K (φ_ring_back c) 2) := by
  refine def_ok F sc_ring_back rfl fun cdv A outer s H E hr xs o hφ hm => ?_
  have nd := sc_ring_back.nd
  cases hφ with
  | mk R h b a hf hz hn x wx hx lx =>
    have w1 := h.w1
    have w4 := h.w4
    have hp : 0 < x.length := List.length_pos_iff.mpr hx
    have lr := onRing_len' w1 x
    have wr := onRing_wd h wx hx
    have hne : onRing R x ≠ [] := fun z => by rw [z, List.length_nil] at lr; omega
    have key := fun {k : Nat} (hk : k < x.length) (h0 : (k + b + (R.w - 1)) % x.length = 0) => tell_ring h hf.1 wx hx hk h0
    obtain ⟨k1, k2⟩ := ring_first (b := b) (w := R.w) hp w1
    have key := key k1 k2
    have wins : ∀ p, p + (b + 1 + a) ≤ (around (rotR ((0 - (b : Int) - (R.w : Int) + 1) % (x.length : Int)).toNat (onRing R x)) (b + a)).length → ∃ cs, leastN R (((around (rotR ((0 - (b : Int) - (R.w : Int) + 1) % (x.length : Int)).toNat (onRing R x)) (b + a)).drop p).take (b + 1 + a)) = some cs ∧ cs.length = b + 1 + a + (R.w - 1) := by
      have hrx : rotR ((0 - (b : Int) - (R.w : Int) + 1) % (x.length : Int)).toNat x ≠ [] := fun z => by
        have := congrArg List.length z
        rw [rot_len, List.length_nil] at this
        omega
      rw [← rot_onRing w1 k1, around_on w1 hrx]
      exact fun p hp2 => tell_some h (around_lt (rot_wd wx) (by rw [rot_len]; exact hp)) (by omega) hp2
    obtain ⟨k, hk⟩ : ∃ k, k = ((0 - (b : Int) - (R.w : Int) + 1) % (x.length : Int)).toNat := ⟨_, rfl⟩
    rw [← hk] at k1 k2 key wins
    generalize hrr : onRing R x = r at lr wr hne key wins
    have c1 : Dt.cutD (r.map nI) (some (k : Int)) none = (r.drop k).map nI := by
      rw [cutD_map, HT.sIx_nat, Nat.min_eq_left (by omega)]
      show ((r.drop _).take (r.length - _)).map nI = _
      rw [List.take_of_length_le (by rw [List.length_drop]; exact Nat.le_refl _)]
    have c2 : Dt.cutD (r.map nI) none (some (k : Int)) = (r.take k).map nI := by
      rw [cutD_map, HT.sIx_nat, Nat.min_eq_left (by omega)]
      rfl
    refine dss_cons (expr (ce (g_need_rule.at hr) (ae (ve 0)) (.mk _ (isRule_enc h))) ?_)
    refine dss_cons (expr (ce (g_need_piece.at hr) (ae (ve 0) (ae (ve 1) (ae (de_nat (m := 1))))) (.mk R h r _ wr (by omega) (by omega))) ?_)
    refine dss_cons (set 2 (x := nT [b, a]) (ck (g_need_bounds.at hr) (ak (v 0)) (.mk R h b a hf hz hn)) ?_)
    refine dss_cons (set 3 (x := nI k) ((dk_modZ (i := 0 - (b : Int) - (R.w : Int) + 1) (j := (x.length : Int)) (DK.toE (dk_add (DK.toE (dk_sub (DK.toE (dk_sub (de_int (q := 0)) (DK.toE (ixT (xs := [nI b, nI a]) (x := nI b) (v 2) (de_int (q := 0)))))) (DK.toE (ixT (x := nI R.w) (v 0) (de_int (q := 1)))))) (de_int (q := 1)))) (DE.cast (DK.toE (lenL (xs := r.map nI) (ve 1) T.b_len)) (by rw [List.length_map, lr])) (by omega)).cast (by rw [hk])) ?_)
    refine dss_cons (setF 4 ((df_cat (DF.toL ((sl (v 1).toL (do_some (ve 3)) do_none).cast c1)) (DF.toL ((sl (v 1).toL do_none (do_some (ve 3))).cast c2)) (by rw [List.length_map, List.length_map, List.length_drop, List.length_take, sizeLine_eq]; omega)).cast (ys := (rotR k r).map nI) (by unfold rotR; rw [List.map_append])) ?_)
    refine dss_freeze 4 rfl ?_
    have lrot := rot_len k r
    have nrot : rotR k r ≠ [] := fun z => by rw [z, List.length_nil] at lrot; omega
    refine dss_one (ds_retF (cf (g_told_back.at hr) (ak (v 0) (ak (DF.toK (cf (g_around.at hr) (ak (v 4) (ak (dk_addN (m := b) (m' := a) (DK.toE (ixT (xs := [nI b, nI a]) (x := nI b) (v 2) (de_int (q := 0)))) (DK.toE (ixT (xs := [nI b, nI a]) (x := nI a) (v 2) (de_int (q := 1))))))) (.mk (rotR k r) (b + a) nrot (by omega)))) (ak (v 2)))) (.mk R h b a _ (by rw [around_len]; omega) (by rw [around_len]; omega) wins)) ?_)
    show Rs.f _ = Rs.f _
    rw [key]
  | non R h p w hw l wl hl ll =>
    have hp : 0 < l.length := List.length_pos_iff.mpr hl
    refine dss_cons (expr (ce (g_need_rule.at hr) (ae (ve 0)) (.mk _ (isRule_enc h))) ?_)
    refine dss_cons (expr (ce (g_need_piece.at hr) (ae (ve 0) (ae (ve 1) (ae (de_nat (m := 1))))) (.mk R h l _ wl (by omega) (by omega))) ?_)
    exact dss_cons (ds_setR 2 nd rfl (Or.inl rfl) (.inl rfl) (by rfl) (cr bX_takes (g_need_bounds.at hr) (ae (ve 0)) (.non R h p w hw)) rfl)
  | few R h =>
    refine dss_cons (expr (ce (g_need_rule.at hr) (ae (ve 0)) (.mk _ (isRule_enc h))) ?_)
    exact dss_cons (exprR (cr bX_takes (g_need_piece.at hr) (ae (ve 0) (ae (ve 1) (ae (de_nat (m := 1))))) (.few R h [] 1 (by simp) (by simp) (by simp))) rfl)
  | bad R h x hx hl hp =>
    refine dss_cons (expr (ce (g_need_rule.at hr) (ae (ve 0)) (.mk _ (isRule_enc h))) ?_)
    exact dss_cons (exprR (cr bX_takes (g_need_piece.at hr) (ae (ve 0) (ae (ve 1) (ae (de_nat (m := 1))))) (.bad R h x _ hx hl hp)) rfl)
inductive φ__law_told (c : Cs) : List PyData → Rs → Prop
  | f (way : Nat) (r x : PyData) (l : List PyData) (h0 : way = 0 → φ_ring_back c [r, x] (.f l)) (h1 : way ≠ 0 → φ_piece_back c [r, x] (.f l)) : φ__law_told c [nI way, r, x] (.f l)
  | row (way : Nat) (r x : PyData) (h0 : way = 0 → φ_ring_back c [r, x] (.raise c.BadRow)) (h1 : way ≠ 0 → φ_piece_back c [r, x] (.raise c.BadRow)) : φ__law_told c [nI way, r, x] (.k (.str "row"))
  | back (way : Nat) (r x : PyData) (h0 : way = 0 → φ_ring_back c [r, x] (.raise c.NoBack)) (h1 : way ≠ 0 → φ_piece_back c [r, x] (.raise c.NoBack)) : φ__law_told c [nI way, r, x] (.k (.str "back"))
abbrev s__law_told : Stmt := topS 72
theorem sc__law_told : FnScope ["_law_way", "_law_rule_here", "_law_thing", "_law_error"] ["_law_way", "_law_rule_here", "_law_thing"] (defScope s__law_told) := ⟨rfl, rfl, rfl, by decide +kernel, rfl, by decide +kernel, by decide +kernel⟩
theorem ok__law_told (T : Txt K mg c) (g_piece_back : GDef P w K mg base "piece_back" 2 (φ_piece_back c) 7) (g_ring_back : GDef P w K mg base "ring_back" 2 (φ_ring_back c) 7) (g__law_word : GDefE P w K mg base "_law_word" (ψ__law_word c) 1) {f : Addr} {fd : FuncData} (F : Fun K "_law_told" "_law_told" s__law_told f fd) : FnOk P w K mg base (L2.CX P w) 8 f fd ["_law_way", "_law_rule_here", "_law_thing"] (spD K (φ__law_told c) 3) := by
  refine def_ok F sc__law_told rfl fun cdv A outer s H E hr xs o hφ hm => ?_
  have nd := sc__law_told.nd
  cases hφ with
  | f way r x l h0 h1 =>
    refine dss_one (ds_try (i := 3) (fun C => False) rfl rfl nd rfl rfl ⟨rfl, by decide, .inl T.x_RowError.g⟩ bX_takes (fun W' pn xe tk po => ?_) (fun C hC => hC.elim) (fun C hC a oe pn hz hf => hC.elim))
    refine dss_cons (ds_if (db_eqN (m2 := 0) (ve 0) de_nat) (fun hq => ?_) (fun hq => dss_nil ?_))
    · exact dss_one (ds_retF (cf (g_ring_back.at hr) (ak (v 1) (ak (v 2))) (h0 (of_decide_eq_true hq))) rfl)
    · exact dss_one (ds_retF (cf (g_piece_back.at hr) (ak (v 1) (ak (v 2))) (h1 (of_decide_eq_false hq))) rfl)
  | row way r x h0 h1 =>
    refine dss_one (ds_try (i := 3) (fun C => C = c.BadRow) rfl rfl nd rfl rfl ⟨rfl, by decide, .inl T.x_RowError.g⟩ bX_takes (fun W' pn xe tk po => ?_) (fun C hC => by subst hC; exact T.em_BadRow) (fun C hC a oe pn hz hf => ?_))
    · refine dss_cons (ds_if (db_eqN (m2 := 0) (ve 0) de_nat) (fun hq => ?_) (fun hq => dss_nil ?_))
      · exact dss_one (ds_retR (cr tk (g_ring_back.at hr) (ae (ve 1) (ae (ve 2))) (h0 (of_decide_eq_true hq))) rfl)
      · exact dss_one (ds_retR (cr tk (g_piece_back.at hr) (ae (ve 1) (ae (ve 2))) (h1 (of_decide_eq_false hq))) rfl)
    · subst hC
      exact dss_one (ds_ret (ce_suite g__law_word hr .row rfl hz hf 3) rfl)
  | back way r x h0 h1 =>
    refine dss_one (ds_try (i := 3) (fun C => C = c.NoBack) rfl rfl nd rfl rfl ⟨rfl, by decide, .inl T.x_RowError.g⟩ bX_takes (fun W' pn xe tk po => ?_) (fun C hC => by subst hC; exact T.em_NoBack) (fun C hC a oe pn hz hf => ?_))
    · refine dss_cons (ds_if (db_eqN (m2 := 0) (ve 0) de_nat) (fun hq => ?_) (fun hq => dss_nil ?_))
      · exact dss_one (ds_retR (cr tk (g_ring_back.at hr) (ae (ve 1) (ae (ve 2))) (h0 (of_decide_eq_true hq))) rfl)
      · exact dss_one (ds_retR (cr tk (g_piece_back.at hr) (ae (ve 1) (ae (ve 2))) (h1 (of_decide_eq_false hq))) rfl)
    · subst hC
      exact dss_one (ds_ret (ce_suite g__law_word hr .back rfl hz hf 3) rfl)
inductive φ__law_ring_leads : List PyData → Rs → Prop
  | mk (R : Rule) (h : R.ok) (b a : Nat) (hf : FirstB R b a) (hz : b + a ≤ 128) (hn : rgB R = none) (x : List Nat) (wx : Wd R x) (hx : x ≠ []) (lx : x.length ≤ 100) : φ__law_ring_leads [encR R, nL x] (.k (.bool true))
abbrev s__law_ring_leads : Stmt := topS 74
theorem sc__law_ring_leads : FnScope ["_law_rule_here", "_law_ring", "_law_handed", "_law_turn", "_law_found"] ["_law_rule_here", "_law_ring"] (defScope s__law_ring_leads) := ⟨rfl, rfl, rfl, by decide +kernel, rfl, by decide +kernel, by decide +kernel⟩
theorem ok__law_ring_leads (T : Txt K mg c) (g__law_ring_on : GDef P w K mg base "_law_ring_on" 2 φ__law_ring_on 3) (g__law_told : GDef P w K mg base "_law_told" 3 (φ__law_told c) 8) (g__law_signs : GDef P w K mg base "_law_signs" 2 φ__law_signs 1) (g_ring_on : GDef P w K mg base "ring_on" 2 (φ_ring_on c) 6) {f : Addr} {fd : FuncData} (F : Fun K "_law_ring_leads" "_law_ring_leads" s__law_ring_leads f fd) : FnOk P w K mg base (L2.CX P w) 9 f fd ["_law_rule_here", "_law_ring"] (spD K φ__law_ring_leads 2) := by
  refine def_ok F sc__law_ring_leads rfl fun cdv A outer s H E hr xs o hφ hm => ?_
  have nd := sc__law_ring_leads.nd
  cases hφ with
  | mk R h b a hf hz hn x wx hx lx =>
  have w1 := h.w1
  have lo := onRing_len' w1 x
  refine dss_cons (setF 2 (cf (g__law_ring_on.at hr) (ak (v 0) (ak (v 1))) (.mk R h x wx (by omega) hx)) ?_)
  let st : Rho := [some (.d (encR R)), some (.d (nL x)), some (.l ((onRing R x).map nI)), none, none]
  obtain ⟨x', l, hxl⟩ : ∃ x' l, x = x' ++ [l] := by
    rcases List.eq_nil_or_concat x with z | ⟨x', l, z⟩
    · exact absurd z hx
    · exact ⟨x', l, by rw [z, List.concat_eq_append]⟩
  have exl : x.map nI = x'.map nI ++ [nI l] := by rw [hxl, List.map_append]; rfl
  have told1 : φ__law_told c [nI 0, encR R, nL (onRing R x)] (.f (x.map nI)) := .f 0 _ _ _ (fun _ => .mk R h b a hf hz hn x wx hx (by omega)) (fun z => absurd rfl z)
  refine dss_cons (ds_for (List.range 2) nI [3, 4] (fun pre ρ => ρ = st) bX_po rfl (fun _ => rfl) (di_rangeN T.b_range (de_nat (m := 2)) (by omega)) rfl ?_ ?_)
  · rintro pre k post ρ' hL rfl
    refine ⟨_, _, gn 3 (js := [3, 4]), ?_⟩
    refine dss_cons (setF 4 (cfs (g__law_told.at hr) (ae (de_nat (m := 0)) (ae (ve 0) (ae (vle 2)))) told1 nmap_scal) ?_)
    refine dss_cons (ds_if (k := false) ((db_not (tb (k := true) (ce (g__law_signs.at hr) (ae (vle 4) (ae (ve 1))) (.mk x (by omega))))).cast rfl) (fun h => by cases h) (fun _ => dss_nil ?_))
    refine dss_cons (appPop 2 4 (xs := (onRing R x).map nI) (ys := x'.map nI) (y := nI l) rfl (by rw [← exl]; rfl) (by rw [List.length_map, sizeLine_eq]; omega) ?_)
    refine dss_cons (app 4 (xs := x'.map nI) (dk_nat (m := 9)) (by
      have := congrArg List.length hxl
      rw [List.length_append] at this
      rw [List.length_map, sizeLine_eq]
      omega) ?_)
    exact dss_one (setF 2 (cf (g__law_ring_on.at hr) (ak (v 0) (ak (v 1))) (.mk R h x wx (by omega) hx)) rfl)
  · rintro ρ' rfl
    obtain ⟨y, wy, ly, oy⟩ := ring_onto h (norg_inj h (rgB_none h hn)) wx hx
    have ny : y ≠ [] := fun z => by rw [z, List.length_nil] at ly; exact hx (List.length_eq_zero_iff.mp ly.symm)
    have told2 : φ__law_told c [nI 0, encR R, nL x] (.f (y.map nI)) := .f 0 _ _ _ (fun _ => by
      have := φ_ring_back.mk (c := c) R h b a hf hz hn y wy ny (by omega)
      rwa [oy] at this) (fun z => absurd rfl z)
    refine dss_cons (setF 4 (cfs (g__law_told.at hr) (ae (de_nat (m := 0)) (ae (ve 0) (ae (ve 1)))) told2 nmap_scal) ?_)
    refine dss_one (ds_ret ((dk_and (k := true) (k' := true) (isi "list" (vle 4) T.b_isinstance T.b_list (by exact kit_list _)).toE fun _ => de_and (k := true) (k' := true) (DE.cast (DK.toE (dk_eqN (m1 := y.length) (m2 := x.length) (DE.cast (DK.toE (lenL (xs := y.map nI) (vle 4) T.b_len)) (by rw [List.length_map])) (DE.cast (DK.toE (lenL (xs := x.map nI) (ve 1) T.b_len)) (by rw [List.length_map])))) (by rw [ly]; simp)) fun _ => de_one (DE.cast (DK.toE (dk_eqL hr (DF.toE (cfs (g_ring_on.at hr) (ae (ve 0) (ae (vle 4))) (.mk R h y wy (by omega) ny) nmap_scal)) (ve 1))) (by rw [oy]; simp))).cast rfl) rfl)
inductive φ__law_piece_leads : List PyData → Rs → Prop
  | mk (R : Rule) (h : R.ok) (b a : Nat) (hf : FirstB R b a) (hz : b + a ≤ 128) (hn : rgB R = none) (x : List Nat) (wx : Wd R x) (lx : x.length ≤ 300) (hl : b + a + R.w ≤ x.length) : φ__law_piece_leads [encR R, nT [b, a], nL x] (.k (.bool true))
abbrev s__law_piece_leads : Stmt := topS 75
theorem sc__law_piece_leads : FnScope ["_law_rule_here", "_law_pair", "_law_piece_here", "_law_told_here", "_law_due", "_law_short"] ["_law_rule_here", "_law_pair", "_law_piece_here"] (defScope s__law_piece_leads) := ⟨rfl, rfl, rfl, by decide +kernel, rfl, by decide +kernel, by decide +kernel⟩
theorem ok__law_piece_leads (T : Txt K mg c) (g_piece_on : GDef P w K mg base "piece_on" 2 (φ_piece_on c) 6) (g__law_signs : GDef P w K mg base "_law_signs" 2 φ__law_signs 1) (g__law_told : GDef P w K mg base "_law_told" 3 (φ__law_told c) 8) {f : Addr} {fd : FuncData} (F : Fun K "_law_piece_leads" "_law_piece_leads" s__law_piece_leads f fd) : FnOk P w K mg base (L2.CX P w) 9 f fd ["_law_rule_here", "_law_pair", "_law_piece_here"] (spD K φ__law_piece_leads 3) := by
  refine def_ok F sc__law_piece_leads rfl fun cdv A outer s H E hr xs o hφ hm => ?_
  have nd := sc__law_piece_leads.nd
  cases hφ with
  | mk R h b a hf hz hn x wx lx hl =>
  have w1 := h.w1
  have ol := on_len R x
  have wr : Wd R (on R x) := fun c hc => on_lt h wx c hc
  refine dss_cons (setF 3 (cf (g_piece_on.at hr) (ak (v 0) (ak (v 2))) (.mk R h x wx (by omega) (by omega))) ?_)
  refine dss_freeze 3 rfl ?_
  have cut1 : Dt.cutD (x.map nI) (some ((b + R.w - 1 : Nat) : Int)) (some ((x.length - a : Nat) : Int)) = ((x.drop (b + (R.w - 1))).take ((on R x).length + 1 - (b + 1 + a))).map nI := by
    rw [cutD_map, HT.sIx_nat, HT.sIx_nat, Nat.min_eq_left (by omega), Nat.min_eq_left (by omega)]
    rw [show b + R.w - 1 = b + (R.w - 1) by omega, show x.length - a - (b + (R.w - 1)) = (on R x).length + 1 - (b + 1 + a) by omega]
  have B1 : ∀ {ρ : Rho} {p1 p2 : Pos} {kk : Nat}, True := trivial
  refine dss_cons (setF 4 ((sl (v 2).toL (do_some (DK.toE (dk_subN (m := b + R.w) (m' := 1) (DK.toE (dk_addN (m := b) (m' := R.w) (DK.toE (ixT (xs := [nI b, nI a]) (x := nI b) (v 1) (de_int (q := 0)))) (DK.toE (ixT (x := nI R.w) (v 0) (de_int (q := 1)))))) de_nat (by omega)))) (do_some (DK.toE (dk_subN (m := x.length) (m' := a) (DE.cast (DK.toE (lenL (xs := x.map nI) (ve 2) T.b_len)) (by rw [List.length_map])) (DK.toE (ixT (xs := [nI b, nI a]) (x := nI a) (v 1) (de_int (q := 1)))) (by omega))))).cast cut1) ?_)
  refine dss_freeze 4 rfl ?_
  have told1 : φ__law_told c [nI 1, encR R, nL (on R x)] (.f (((x.drop (b + (R.w - 1))).take ((on R x).length + 1 - (b + 1 + a))).map nI)) := .f 1 _ _ _ (fun z => by cases z) (fun _ => .mk R h b a hf hz hn x wx (by omega) (by omega))
  have dl : ((x.drop (b + (R.w - 1))).take ((on R x).length + 1 - (b + 1 + a))).length ≤ 300 := by rw [List.length_take, List.length_drop]; omega
  generalize ((x.drop (b + (R.w - 1))).take ((on R x).length + 1 - (b + 1 + a))) = due at told1 dl ⊢
  refine dss_cons (ds_if (k := false) ((db_not (tb (k := true) (ce (g__law_signs.at hr) (ae (DF.toE (cf (g__law_told.at hr) (ak (dk_nat (m := 1)) (ak (v 0) (ak (v 3)))) told1)) (ae (ve 4))) (.mk due (by omega))))).cast rfl) (fun h => by cases h) (fun _ => dss_nil ?_))
  have cut2 : Dt.cutD ((on R x).map nI) none (some ((b + a : Nat) : Int)) = ((on R x).take (b + a)).map nI := by
    rw [cutD_map, HT.sIx_nat, Nat.min_eq_left (by omega)]
    rfl
  refine dss_cons (setF 5 ((sl (v 3).toL do_none (do_some (DK.toE (dk_addN (m := b) (m' := a) (DK.toE (ixT (xs := [nI b, nI a]) (x := nI b) (v 1) (de_int (q := 0)))) (DK.toE (ixT (xs := [nI b, nI a]) (x := nI a) (v 1) (de_int (q := 1)))))))).cast cut2) ?_)
  refine dss_freeze 5 rfl ?_
  have told2 : φ__law_told c [nI 1, encR R, nL ((on R x).take (b + a))] (.k (.str "row")) := .row 1 _ _ (fun z => by cases z) (fun _ => .short R h b a hf hz hn _ (fun c hc => wr c (List.mem_of_mem_take hc)) (by rw [List.length_take]; omega))
  have shpS : SeqAt.shaped (.str "row") = true := by decide +kernel
  exact dss_one (ds_ret ((dk_and (k := true) (k' := true) (DE.cast (DK.toE (dk_eqD (x := .str "row") (y := .str "row") hr (ce (g__law_told.at hr) (ae (de_nat (m := 1)) (ae (ve 0) (ae (ve 5)))) told2) dk_str.toE shpS shpS)) (congrArg PyData.bool (by decide +kernel))) fun _ => de_one (DE.cast (DK.toE (dk_eqL (l := due) (l' := due) hr (DF.toE (cf (g__law_told.at hr) (ak (dk_nat (m := 1)) (ak (v 0) (ak (v 3)))) told1)) (ve 4))) (by simp))).cast rfl) rfl)
inductive φ_law : List PyData → Rs → Prop
  | mk (ns : List Int) : φ_law [scrD ns] (.k (.bool true))
abbrev s_law : Stmt := topS 77
theorem sc_law : FnScope ["_law_script", "_law_first", "_law_rule_here", "_law_lists", "_law_pair", "_law_two", "_law_odd_here", "_law_told_here", "_law_ring", "_law_size", "_law_piece_here", "_law_k", "_law_one"] ["_law_script"] (defScope s_law) := ⟨rfl, rfl, rfl, by decide +kernel, rfl, by decide +kernel, by decide +kernel⟩
theorem ok_law (T : Txt K mg c) (g__law_cell_at : GDef P w K mg base "_law_cell_at" 2 φ__law_cell_at 1) (g__law_rule : GDef P w K mg base "_law_rule" 2 φ__law_rule 3) (g_bounds : GDef P w K mg base "bounds" 1 φ_bounds 5) (g_rings : GDef P w K mg base "rings" 1 φ_rings 4) (g__law_odd : GDef P w K mg base "_law_odd" 3 φ__law_odd 1) (g__law_piece : GDef P w K mg base "_law_piece" 3 φ__law_piece 2) (g__law_ring_by : GDef P w K mg base "_law_ring_by" 3 φ__law_ring_by 3) (g__law_mixed : GDef P w K mg base "_law_mixed" 2 φ__law_mixed 1) (g__law_piece_leads : GDef P w K mg base "_law_piece_leads" 3 φ__law_piece_leads 9) (g__law_told : GDef P w K mg base "_law_told" 3 (φ__law_told c) 8) (g_missing : GDef P w K mg base "missing" 1 φ_missing 5) (g_twins : GDef P w K mg base "twins" 1 φ_twins 4) (g__law_ring_leads : GDef P w K mg base "_law_ring_leads" 2 φ__law_ring_leads 9) (g__law_is_number : GDef P w K mg base "_law_is_number" 1 φ__law_is_number 1) {f : Addr} {fd : FuncData} (F : Fun K "law" "law" s_law f fd) : FnOk P w K mg base (L2.CX P w) 10 f fd ["_law_script"] (spD K φ_law 1) := by
  refine def_ok F sc_law rfl fun cdv A outer s H E hr xs o hφ hm => ?_
  have nd := sc_law.nd
  cases hφ with
  | mk ns =>
  have at0 : ∀ k : Nat, φ__law_cell_at [scrD ns, nI k] (.k (.int (cellAt ns k))) := fun k => .mk ns k
  have shR : SeqAt.shaped (.str "row") = true := by decide +kernel
  have shB : SeqAt.shaped (.str "back") = true := by decide +kernel
  have eqR : (!PyData.eqv (.str "row") (.str "row")) = false := by decide +kernel
  have eqB : PyData.eqv (.str "back") (.str "back") = true := by decide +kernel
  have main : ∀ x : Int, DSs (bX P w K mg base ["_law_script", "_law_first", "_law_rule_here", "_law_lists", "_law_pair", "_law_two", "_law_odd_here", "_law_told_here", "_law_ring", "_law_size", "_law_piece_here", "_law_k", "_law_one"] "law" s_law f cdv A outer s H E) (wE E) ((defBody s_law).drop 2) [some (.d (scrD ns)), some (.d (.int x)), none, none, none, none, none, none, none, none, none, none, none] (fnK (.k (.bool true))) := fun x => by
    refine dss_cons (set 2 (ck (g__law_rule.at hr) (ak (v 1) (ak (ck (g__law_cell_at.at hr) (ak (v 0) (ak (dk_nat (m := 1)))) (at0 1)))) (.mk _ _)) ?_)
    have rok := ruleOf_ok x (cellAt ns 1)
    generalize ruleOf x (cellAt ns 1) = R at rok ⊢
    have s2 := rok.s2
    have w1 := rok.w1
    have w4 := rok.w4
    have rby : ∀ k : Nat, φ__law_ring_by [scrD ns, encR R, nI k] (.f ((pieceOf R.s (cellAt ns (8 + k)) (ringZ (cellAt ns (4 + k)))).map nI)) := fun k => .mk ns R rok k
    let rk : Nat → List Nat := fun k => pieceOf R.s (cellAt ns (8 + k)) (ringZ (cellAt ns (4 + k)))
    have rkl : ∀ k, 1 ≤ (rk k).length ∧ (rk k).length ≤ 60 := fun k => by
      have e : (rk k).length = ringZ (cellAt ns (4 + k)) := pieceOf_len _ _ _
      rw [e]
      exact ringZ_le _
    have rkw : ∀ k, Wd R (rk k) := fun k => pieceOf_lt (by omega) _ _
    have rkn : ∀ k, rk k ≠ [] := fun k z => by have := (rkl k).1; rw [z, List.length_nil] at this; omega
    have rby : ∀ k : Nat, φ__law_ring_by [scrD ns, encR R, nI k] (.f ((rk k).map nI)) := rby
    refine dss_cons (setLc1 3 [("_law_k", 11)] (List.range 2) nI (fun k => nL (rk k)) (fun k => [some (.d (scrD ns)), some (.d (.int x)), some (.d (encR R)), none, none, none, none, none, none, none, none, some (.d (nI k)), none]) (di_rangeN T.b_range (de_nat (m := 2)) (by omega)) (by decide) (fun k _ _ _ _ _ _ => gn 11) (fun k _ _ _ _ _ _ => DF.toK (cf (g__law_ring_by.at ‹_›) (ak (v 0) (ak (v 2) (ak (v 11)))) (rby k))) ?_)
    refine dss_freeze 3 rfl ?_
    clear_value rk
    show DSs _ _ _ [some (.d (scrD ns)), some (.d (.int x)), some (.d (encR R)), some (.d (.list ((List.range 2).map fun k => nL (rk k)))), none, none, none, none, none, none, none, none, none] _
    have no := oddQ_no rok (rk 0) (by have := rkl 0; omega) (mixed (cellAt ns 12) 3)
    have oddφ : φ__law_odd [encR R, nL (rk 0), nI (mixed (cellAt ns 12) 3)] (.k (oddQ R (rk 0) (mixed (cellAt ns 12) 3))) := .mk R rok (rk 0) (by have := rkl 0; omega) _
    generalize oddQ R (rk 0) (mixed (cellAt ns 12) 3) = od at no oddφ
    have bad0 : φ__law_told c [nI 0, encR R, od] (.k (.str "row")) := .row 0 _ _ (fun _ => .bad R rok od no.pl no.sz no.no) (fun z => absurd rfl z)
    have bad1 : φ__law_told c [nI 1, encR R, od] (.k (.str "row")) := .row 1 _ _ (fun z => by cases z) (fun _ => .bad R rok od no.pl no.sz no.no)
    have few0 : φ__law_told c [nI 0, encR R, nL []] (.k (.str "row")) := .row 0 _ _ (fun _ => .few R rok) (fun z => absurd rfl z)
    cases hb : rgB R with
    | none =>
      obtain ⟨b, a, hf, hz⟩ := first_norg rok (rgB_none rok hb)
      have ht := norg_notw rok (rgB_none rok hb)
      have htw : twB R = none := (notw_iff rok).mpr ht
      have hms := (twins_missing rok).mp htw
      refine dss_cons (set 4 (x := nT [b, a]) (ck (g_bounds.at hr) (ak (v 2)) (.mk R rok b a hf hz hb)) ?_)
      refine dss_cons (set 5 (ck (g_rings.at hr) (ak (v 2)) (.non R rok hb)) ?_)
      refine dss_cons (set 6 (x := od) (ck (g__law_odd.at hr) (ak (v 2) (ak (ixL (xs := (List.range 2).map fun k => nL (rk k)) (x := nL (rk 0)) (v 3).toL (de_int (q := 0)) rfl) (ak (cs (g__law_mixed.at hr) (ae (DK.toE (cs (g__law_cell_at.at hr) (ae (ve 0) (ae (de_nat (m := 12)))) (at0 12))) (ae (de_nat (m := 3)))) (.mk _ 3 (by omega)))))) oddφ) ?_)
      refine dss_cons (ds_if (k := false) (DW.toB (dw_or (k := false) (k' := false) ((db_neD (x := .str "row") (y := .str "row") hr (ce (g__law_told.at hr) (ae (de_nat (m := 0)) (ae (ve 2) (ae (ve 6)))) bad0) dk_str.toE shR shR).cast eqR) fun _ => dw_or (k := false) (k' := false) ((db_neD (x := .str "row") (y := .str "row") hr (ce (g__law_told.at hr) (ae (de_nat (m := 1)) (ae (ve 2) (ae (ve 6)))) bad1) dk_str.toE shR shR).cast eqR) fun _ => dw_or1 ((db_neD (x := .str "row") (y := .str "row") hr (ce (g__law_told.at hr) (ae (de_nat (m := 0)) (ae (ve 2) (ae (DE.cast (y := nL []) (DF.toE (lst (xs := []) dak_nil)) rfl)))) few0) dk_str.toE shR shR).cast eqR))) (fun h => by cases h) (fun _ => dss_nil ?_))
      refine dss_cons (ds_if (k := false) ((db_neB (k := false) (k' := false) hr (DE.cast (DK.toE (dk_isN (ve 4))) (by rfl)) (DE.cast (DK.toE (dk_notN (ve 5))) (by rfl))).cast (by decide)) (fun h => by cases h) (fun _ => dss_nil ?_))
      refine dss_cons (ds_if (k := false) ((db_isN (ve 4)).cast (by rfl)) (fun h => by cases h) (fun _ => dss_nil ?_))
      refine dss_cons (ds_if (k := false) (DW.toB (dw_or (k := false) (k' := false) ((db_not (tb (k := true) (isi "tuple" (ve 4) T.b_isinstance T.b_tuple (by exact kit_tuple _)).toE)).cast rfl) fun _ => dw_or (k := false) (k' := false) ((db_neN (m1 := 2) (m2 := 2) (DE.cast (DK.toE (lenT (xs := [nI b, nI a]) (ve 4) T.b_len)) (by rfl)) de_nat).cast (by simp)) fun _ => dw_or1 ((db_not (tb (k := true) (DE.cast (DK.toE (allL (ns := [b, a].map fun _ => true) (DE.cast (DF.toE (lc1 [("_law_one", 12)] [b, a] nI (fun _ => .bool true) (fun q => [some (.d (scrD ns)), some (.d (.int x)), some (.d (encR R)), some (.d (.list ((List.range 2).map fun k => nL (rk k)))), some (.d (nT [b, a])), some (.d .none), some (.d od), none, none, none, none, none, some (.d (nI q))]) (di_tup (v 4)) (by simp) (fun q _ _ _ _ _ _ => gn 12) (fun q _ _ _ _ _ _ => DE.toK (cs (g__law_is_number.at ‹_›) (ae (ve 12)) (.mk q)).toE rfl))) (by rfl)) T.b_all)) (by rfl)))).cast rfl))) (fun h => by cases h) (fun _ => dss_nil ?_))
      refine dss_cons (ds_if (k := false) (DW.toB (dw_or (k := false) (k' := false) ((db_notN (ce (g_missing.at hr) (ae (ve 2)) (.non R rok hms))).cast (by rfl)) fun _ => dw_or1 ((db_notN (ce (g_twins.at hr) (ae (ve 2)) (.non R rok htw))).cast (by rfl)))) (fun h => by cases h) (fun _ => dss_nil ?_))
      refine dss_cons (ds_for (List.range 2) (fun k => nL (rk k)) [8] (fun pre ρ => ρ = [some (.d (scrD ns)), some (.d (.int x)), some (.d (encR R)), some (.d (.list ((List.range 2).map fun k => nL (rk k)))), some (.d (nT [b, a])), some (.d .none), some (.d od), none, none, none, none, none, none]) bX_po rfl (fun _ => rfl) (di_list (v 3)) rfl ?_ ?_)
      · rintro pre k post ρ' hL rfl
        refine ⟨_, _, gn 8 (js := [8]), dss_one (ds_if (k := false) ((db_not (tb (k := true) (ce (g__law_ring_leads.at hr) (ae (ve 2) (ae (ve 8))) (.mk R rok b a hf hz hb (rk k) (rkw k) (rkn k) (by have := rkl k; omega))))).cast rfl) (fun h => by cases h) (fun _ => dss_nil rfl))⟩
      rintro ρ' rfl
      have n31 : (cellAt ns 3 % 31).toNat ≤ 30 := by
        have := Int.emod_lt_of_pos (cellAt ns 3) (show (0 : Int) < 31 by decide)
        omega
      refine dss_cons (set 9 (x := nI (b + a + R.w + (cellAt ns 3 % 31).toNat)) (dk_addN (m := b + a + R.w) (m' := (cellAt ns 3 % 31).toNat) (DK.toE (dk_addN (m := b + a) (m' := R.w) (DK.toE (dk_addN (m := b) (m' := a) (DK.toE (ixT (xs := [nI b, nI a]) (x := nI b) (v 4) (de_int (q := 0)))) (DK.toE (ixT (xs := [nI b, nI a]) (x := nI a) (v 4) (de_int (q := 1)))))) (DK.toE (ixT (x := nI R.w) (v 2) (de_int (q := 1)))))) (DK.toE (dk_modZ (cs (g__law_cell_at.at hr) (ae (ve 0) (ae (de_nat (m := 3)))) (at0 3)).toE (de_int (q := 31)) (by decide)))) ?_)
      refine dss_cons (setF 10 (cf (g__law_piece.at hr) (ak (v 2) (ak (ck (g__law_cell_at.at hr) (ak (v 0) (ak (dk_nat (m := 13)))) (at0 13)) (ak (v 9)))) (.mk R rok (cellAt ns 13) _ (by omega))) ?_)
      refine dss_freeze 10 rfl ?_
      have pw : Wd R (pieceOf R.s (cellAt ns 13) (b + a + R.w + (cellAt ns 3 % 31).toNat)) := pieceOf_lt (by omega) _ _
      have pl := pieceOf_len R.s (cellAt ns 13) (b + a + R.w + (cellAt ns 3 % 31).toNat)
      generalize pieceOf R.s (cellAt ns 13) (b + a + R.w + (cellAt ns 3 % 31).toNat) = pc at pw pl ⊢
      exact dss_one (ds_ret ((dk_and (k := true) (k' := true) (ce (g__law_piece_leads.at hr) (ae (ve 2) (ae (ve 4) (ae (ve 10)))) (.mk R rok b a hf hz hb pc pw (by omega) (by omega))) fun _ => de_one (DE.cast (DK.toE (dk_eqD (x := nT [b, a]) (y := nT [b, a]) hr (ce (g_bounds.at hr) (ae (ve 2)) (.mk R rok b a hf hz hb)) (ve 4) (shp_nT (k := 0)).ok (shp_nT (k := 0)).ok)) (by rw [eqv_nT]; simp))).cast rfl) rfl)
    | some y =>
      obtain ⟨p, w0⟩ := y
      have back : ∀ (way : Nat) (l : List Nat), Wd R l → l.length ≤ 1000 → (way = 0 → l ≠ []) → φ__law_told c [nI way, encR R, nL l] (.k (.str "back")) := fun way l wl ll hl => .back way _ _ (fun z => .non R rok p w0 hb l wl (hl z) ll) (fun _ => .non R rok p w0 hb l wl ll)
      refine dss_cons (set 4 (x := .none) (ck (g_bounds.at hr) (ak (v 2)) (.non R rok p w0 hb)) ?_)
      refine dss_cons (setP 5 (g_rings.at hr) (ak (v 2)) (.mk R rok p w0 hb) fun ep => ?_)
      refine dss_cons (set 6 (x := od) (ck (g__law_odd.at hr) (ak (v 2) (ak (ixL (xs := (List.range 2).map fun k => nL (rk k)) (x := nL (rk 0)) (v 3).toL (de_int (q := 0)) rfl) (ak (cs (g__law_mixed.at hr) (ae (DK.toE (cs (g__law_cell_at.at hr) (ae (ve 0) (ae (de_nat (m := 12)))) (at0 12))) (ae (de_nat (m := 3)))) (.mk _ 3 (by omega)))))) oddφ) ?_)
      refine dss_cons (ds_if (k := false) (DW.toB (dw_or (k := false) (k' := false) ((db_neD (x := .str "row") (y := .str "row") hr (ce (g__law_told.at hr) (ae (de_nat (m := 0)) (ae (ve 2) (ae (ve 6)))) bad0) dk_str.toE shR shR).cast eqR) fun _ => dw_or (k := false) (k' := false) ((db_neD (x := .str "row") (y := .str "row") hr (ce (g__law_told.at hr) (ae (de_nat (m := 1)) (ae (ve 2) (ae (ve 6)))) bad1) dk_str.toE shR shR).cast eqR) fun _ => dw_or1 ((db_neD (x := .str "row") (y := .str "row") hr (ce (g__law_told.at hr) (ae (de_nat (m := 0)) (ae (ve 2) (ae (DE.cast (y := nL []) (DF.toE (lst (xs := []) dak_nil)) rfl)))) few0) dk_str.toE shR shR).cast eqR))) (fun h => by cases h) (fun _ => dss_nil ?_))
      refine dss_cons (ds_if (k := false) ((db_neB (k := true) (k' := true) hr (DE.cast (DK.toE (dk_isN (ve 4))) (by rfl)) (DE.cast (de_pair (xp := ((w0.map fun c : Pr => c.1).map nI, (w0.map fun c : Pr => c.2).map nI)) 5 (DK.toE (dk_notN (x := pairD ((w0.map fun c : Pr => c.1).map nI, (w0.map fun c : Pr => c.2).map nI)) (ve 5)))) (by rfl))).cast (by decide)) (fun h => by cases h) (fun _ => dss_nil ?_))
      refine dss_cons (ds_if (k := true) ((db_isN (ve 4)).cast (by rfl)) (fun _ => ?_) (fun h => by cases h))
      refine dss_cons (setLc1 7 [("_law_ring", 8)] (List.range 2) (fun k => nL (rk k)) (fun _ => .str "back") (fun k => [some (.d (scrD ns)), some (.d (.int x)), some (.d (encR R)), some (.d (.list ((List.range 2).map fun k => nL (rk k)))), some (.d .none), some (.p2 ep ((w0.map fun c : Pr => c.1).map nI, (w0.map fun c : Pr => c.2).map nI)), some (.d od), none, some (.d (nL (rk k))), none, none, none, none]) (di_list (v 3)) (by decide) (fun k _ _ _ _ _ _ => gn 8) (fun k _ _ _ _ _ _ => ck (g__law_told.at ‹_›) (ak (dk_nat (m := 0)) (ak (v 2) (ak (v 8)))) (back 0 (rk k) (rkw k) (by have := rkl k; omega) fun _ => rkn k)) ?_)
      have sh2 : SeqAt.shaped (.list [.str "back", .str "back"]) = true := by decide +kernel
      have eq2 : PyData.eqv (.list [.str "back", .str "back"]) (.list [.str "back", .str "back"]) = true := by decide +kernel
      exact dss_one (ds_ret ((dk_and (k := true) (k' := true) (DE.cast (DK.toE (dk_eqD (x := .list [.str "back", .str "back"]) (y := .list [.str "back", .str "back"]) hr (vle 7) (DF.toE ((df_rep (xs := [.str "back"]) (j := 2) (lst (ak (dk_str))).toL (de_int (q := 2)) (by decide) (by decide) (by rw [sizeLine_eq]; decide)).cast (by rfl))) sh2 sh2)) (by rw [eq2])) fun _ => de_one (DE.cast (DK.toE (dk_eqD (x := .str "back") (y := .str "back") hr (ce (g__law_told.at hr) (ae (de_nat (m := 1)) (ae (ve 2) (ae (DE.cast (y := nL []) (DF.toE (lst (xs := []) dak_nil)) rfl)))) (back 1 [] (fun z hz => by cases hz) (by simp) fun z => by cases z)) dk_str.toE shB shB)) (by rw [eqB]))).cast rfl) rfl)
  refine dss_cons (set 1 (ck (g__law_cell_at.at hr) (ak (v 0) (ak (dk_nat (m := 0)))) (at0 0)) ?_)
  exact dss_cons (ds_if (k := decide (0 < cellAt ns 2 % 4)) (db_gt (dk_mod (cs (g__law_cell_at.at hr) (ae (ve 0) (ae (de_nat (m := 2)))) (at0 2)).toE de_int (by decide)).toE de_int) (fun _ => dss_one (set 1 (dk_add (dk_mod (ve 1) de_int (by decide)).toE de_int) (main _))) (fun _ => dss_nil (main _)))
end
end Br


open PySem PySem.Spec PyProof.Rows L2 Dt
namespace Br
theorem all_mk {P : Program} {w : World} {K : PySem.W.Frag} {h : Heap} {mg : Str → Option Value} {fa f_law : Addr} (X : K.In h) (G : h.Ns mainGlobals mg) (hfa : mg "law" = some (.ref fa))
    {t_MOST_SIGNS : Tok}
    {t_MOST_WIDE : Tok}
    {t_MOST_ROWS : Tok}
    {C_RowError : Addr}
    {C_BadRule : Addr}
    {C_BadRow : Addr}
    {C_TooWide : Addr}
    {C_NoBack : Addr}
    {C_BadText : Addr}
    {f__law_cell_at : Addr}
    {od__law_cell_at an__law_cell_at : Option Addr} {sl__law_cell_at : Array (Option Value)} {oc__law_cell_at kV__law_cell_at dc__law_cell_at pm__law_cell_at cd__law_cell_at ct__law_cell_at : Value}
    {f__law_mixed : Addr}
    {od__law_mixed an__law_mixed : Option Addr} {sl__law_mixed : Array (Option Value)} {oc__law_mixed kV__law_mixed dc__law_mixed pm__law_mixed cd__law_mixed ct__law_mixed : Value}
    {f__law_random : Addr}
    {od__law_random an__law_random : Option Addr} {sl__law_random : Array (Option Value)} {oc__law_random kV__law_random dc__law_random pm__law_random cd__law_random ct__law_random : Value}
    {f__law_mending : Addr}
    {od__law_mending an__law_mending : Option Addr} {sl__law_mending : Array (Option Value)} {oc__law_mending kV__law_mending dc__law_mending pm__law_mending cd__law_mending ct__law_mending : Value}
    {f__law_beside : Addr}
    {od__law_beside an__law_beside : Option Addr} {sl__law_beside : Array (Option Value)} {oc__law_beside kV__law_beside dc__law_beside pm__law_beside cd__law_beside ct__law_beside : Value}
    {f__law_between : Addr}
    {od__law_between an__law_between : Option Addr} {sl__law_between : Array (Option Value)} {oc__law_between kV__law_between dc__law_between pm__law_between cd__law_between ct__law_between : Value}
    {f__law_turned : Addr}
    {od__law_turned an__law_turned : Option Addr} {sl__law_turned : Array (Option Value)} {oc__law_turned kV__law_turned dc__law_turned pm__law_turned cd__law_turned ct__law_turned : Value}
    {f__law_rule : Addr}
    {od__law_rule an__law_rule : Option Addr} {sl__law_rule : Array (Option Value)} {oc__law_rule kV__law_rule dc__law_rule pm__law_rule cd__law_rule ct__law_rule : Value}
    {f_is_among : Addr}
    {od_is_among an_is_among : Option Addr} {sl_is_among : Array (Option Value)} {oc_is_among kV_is_among dc_is_among pm_is_among cd_is_among ct_is_among : Value}
    {f_rows_of : Addr}
    {od_rows_of an_rows_of : Option Addr} {sl_rows_of : Array (Option Value)} {oc_rows_of kV_rows_of dc_rows_of pm_rows_of cd_rows_of ct_rows_of : Value}
    {f_is_rule : Addr}
    {od_is_rule an_is_rule : Option Addr} {sl_is_rule : Array (Option Value)} {oc_is_rule kV_is_rule dc_is_rule pm_is_rule cd_is_rule ct_is_rule : Value}
    {f_need_rule : Addr}
    {od_need_rule an_need_rule : Option Addr} {sl_need_rule : Array (Option Value)} {oc_need_rule kV_need_rule dc_need_rule pm_need_rule cd_need_rule ct_need_rule : Value}
    {f_pairs_on : Addr}
    {od_pairs_on an_pairs_on : Option Addr} {sl_pairs_on : Array (Option Value)} {oc_pairs_on kV_pairs_on dc_pairs_on pm_pairs_on cd_pairs_on ct_pairs_on : Value}
    {f_all_pairs : Addr}
    {od_all_pairs an_all_pairs : Option Addr} {sl_all_pairs : Array (Option Value)} {oc_all_pairs kV_all_pairs dc_all_pairs pm_all_pairs cd_all_pairs ct_all_pairs : Value}
    {f_all_steps : Addr}
    {od_all_steps an_all_steps : Option Addr} {sl_all_steps : Array (Option Value)} {oc_all_steps kV_all_steps dc_all_steps pm_all_steps cd_all_steps ct_all_steps : Value}
    {f_parting : Addr}
    {od_parting an_parting : Option Addr} {sl_parting : Array (Option Value)} {oc_parting kV_parting dc_parting pm_parting cd_parting ct_parting : Value}
    {f_is_told : Addr}
    {od_is_told an_is_told : Option Addr} {sl_is_told : Array (Option Value)} {oc_is_told kV_is_told dc_is_told pm_is_told cd_is_told ct_is_told : Value}
    {f_led_to : Addr}
    {od_led_to an_led_to : Option Addr} {sl_led_to : Array (Option Value)} {oc_led_to kV_led_to dc_led_to pm_led_to cd_led_to ct_led_to : Value}
    {f_leading_to : Addr}
    {od_leading_to an_leading_to : Option Addr} {sl_leading_to : Array (Option Value)} {oc_leading_to kV_leading_to dc_leading_to pm_leading_to cd_leading_to ct_leading_to : Value}
    {f_searched_backing : Addr}
    {od_searched_backing an_searched_backing : Option Addr} {sl_searched_backing : Array (Option Value)} {oc_searched_backing kV_searched_backing dc_searched_backing pm_searched_backing cd_searched_backing ct_searched_backing : Value}
    {f_way_back : Addr}
    {od_way_back an_way_back : Option Addr} {sl_way_back : Array (Option Value)} {oc_way_back kV_way_back dc_way_back pm_way_back cd_way_back ct_way_back : Value}
    {f_way_from : Addr}
    {od_way_from an_way_from : Option Addr} {sl_way_from : Array (Option Value)} {oc_way_from kV_way_from dc_way_from pm_way_from cd_way_from ct_way_from : Value}
    {f_is_shorter : Addr}
    {od_is_shorter an_is_shorter : Option Addr} {sl_is_shorter : Array (Option Value)} {oc_is_shorter kV_is_shorter dc_is_shorter pm_is_shorter cd_is_shorter ct_is_shorter : Value}
    {f_rings : Addr}
    {od_rings an_rings : Option Addr} {sl_rings : Array (Option Value)} {oc_rings kV_rings dc_rings pm_rings cd_rings ct_rings : Value}
    {f_bounds : Addr}
    {od_bounds an_bounds : Option Addr} {sl_bounds : Array (Option Value)} {oc_bounds kV_bounds dc_bounds pm_bounds cd_bounds ct_bounds : Value}
    {f__law_odd : Addr}
    {od__law_odd an__law_odd : Option Addr} {sl__law_odd : Array (Option Value)} {oc__law_odd kV__law_odd dc__law_odd pm__law_odd cd__law_odd ct__law_odd : Value}
    {f__law_piece : Addr}
    {od__law_piece an__law_piece : Option Addr} {sl__law_piece : Array (Option Value)} {oc__law_piece kV__law_piece dc__law_piece pm__law_piece cd__law_piece ct__law_piece : Value}
    {f__law_ring_by : Addr}
    {od__law_ring_by an__law_ring_by : Option Addr} {sl__law_ring_by : Array (Option Value)} {oc__law_ring_by kV__law_ring_by dc__law_ring_by pm__law_ring_by cd__law_ring_by ct__law_ring_by : Value}
    {f_is_piece : Addr}
    {od_is_piece an_is_piece : Option Addr} {sl_is_piece : Array (Option Value)} {oc_is_piece kV_is_piece dc_is_piece pm_is_piece cd_is_piece ct_is_piece : Value}
    {f_need_piece : Addr}
    {od_need_piece an_need_piece : Option Addr} {sl_need_piece : Array (Option Value)} {oc_need_piece kV_need_piece dc_need_piece pm_need_piece cd_need_piece ct_need_piece : Value}
    {f_number_of : Addr}
    {od_number_of an_number_of : Option Addr} {sl_number_of : Array (Option Value)} {oc_number_of kV_number_of dc_number_of pm_number_of cd_number_of ct_number_of : Value}
    {f_told_by : Addr}
    {od_told_by an_told_by : Option Addr} {sl_told_by : Array (Option Value)} {oc_told_by kV_told_by dc_told_by pm_told_by cd_told_by ct_told_by : Value}
    {f_piece_on : Addr}
    {od_piece_on an_piece_on : Option Addr} {sl_piece_on : Array (Option Value)} {oc_piece_on kV_piece_on dc_piece_on pm_piece_on cd_piece_on ct_piece_on : Value}
    {f__law_signs : Addr}
    {od__law_signs an__law_signs : Option Addr} {sl__law_signs : Array (Option Value)} {oc__law_signs kV__law_signs dc__law_signs pm__law_signs cd__law_signs ct__law_signs : Value}
    {f_need_bounds : Addr}
    {od_need_bounds an_need_bounds : Option Addr} {sl_need_bounds : Array (Option Value)} {oc_need_bounds kV_need_bounds dc_need_bounds pm_need_bounds cd_need_bounds ct_need_bounds : Value}
    {f_steps_of : Addr}
    {od_steps_of an_steps_of : Option Addr} {sl_steps_of : Array (Option Value)} {oc_steps_of kV_steps_of dc_steps_of pm_steps_of cd_steps_of ct_steps_of : Value}
    {f_leading_on : Addr}
    {od_leading_on an_leading_on : Option Addr} {sl_leading_on : Array (Option Value)} {oc_leading_on kV_leading_on dc_leading_on pm_leading_on cd_leading_on ct_leading_on : Value}
    {f_cells_of : Addr}
    {od_cells_of an_cells_of : Option Addr} {sl_cells_of : Array (Option Value)} {oc_cells_of kV_cells_of dc_cells_of pm_cells_of cd_cells_of ct_cells_of : Value}
    {f_least_origin : Addr}
    {od_least_origin an_least_origin : Option Addr} {sl_least_origin : Array (Option Value)} {oc_least_origin kV_least_origin dc_least_origin pm_least_origin cd_least_origin ct_least_origin : Value}
    {f_told_back : Addr}
    {od_told_back an_told_back : Option Addr} {sl_told_back : Array (Option Value)} {oc_told_back kV_told_back dc_told_back pm_told_back cd_told_back ct_told_back : Value}
    {f_piece_back : Addr}
    {od_piece_back an_piece_back : Option Addr} {sl_piece_back : Array (Option Value)} {oc_piece_back kV_piece_back dc_piece_back pm_piece_back cd_piece_back ct_piece_back : Value}
    {f_around : Addr}
    {od_around an_around : Option Addr} {sl_around : Array (Option Value)} {oc_around kV_around dc_around pm_around cd_around ct_around : Value}
    {f_ring_back : Addr}
    {od_ring_back an_ring_back : Option Addr} {sl_ring_back : Array (Option Value)} {oc_ring_back kV_ring_back dc_ring_back pm_ring_back cd_ring_back ct_ring_back : Value}
    {f__law_word : Addr}
    {od__law_word an__law_word : Option Addr} {sl__law_word : Array (Option Value)} {oc__law_word kV__law_word dc__law_word pm__law_word cd__law_word ct__law_word : Value}
    {f__law_told : Addr}
    {od__law_told an__law_told : Option Addr} {sl__law_told : Array (Option Value)} {oc__law_told kV__law_told dc__law_told pm__law_told cd__law_told ct__law_told : Value}
    {f__law_piece_leads : Addr}
    {od__law_piece_leads an__law_piece_leads : Option Addr} {sl__law_piece_leads : Array (Option Value)} {oc__law_piece_leads kV__law_piece_leads dc__law_piece_leads pm__law_piece_leads cd__law_piece_leads ct__law_piece_leads : Value}
    {f_first_ends : Addr}
    {od_first_ends an_first_ends : Option Addr} {sl_first_ends : Array (Option Value)} {oc_first_ends kV_first_ends dc_first_ends pm_first_ends cd_first_ends ct_first_ends : Value}
    {f_further_ends : Addr}
    {od_further_ends an_further_ends : Option Addr} {sl_further_ends : Array (Option Value)} {oc_further_ends kV_further_ends dc_further_ends pm_further_ends cd_further_ends ct_further_ends : Value}
    {f_searched_ends : Addr}
    {od_searched_ends an_searched_ends : Option Addr} {sl_searched_ends : Array (Option Value)} {oc_searched_ends kV_searched_ends dc_searched_ends pm_searched_ends cd_searched_ends ct_searched_ends : Value}
    {f_missing : Addr}
    {od_missing an_missing : Option Addr} {sl_missing : Array (Option Value)} {oc_missing kV_missing dc_missing pm_missing cd_missing ct_missing : Value}
    {f_like_pairs : Addr}
    {od_like_pairs an_like_pairs : Option Addr} {sl_like_pairs : Array (Option Value)} {oc_like_pairs kV_like_pairs dc_like_pairs pm_like_pairs cd_like_pairs ct_like_pairs : Value}
    {f_twins : Addr}
    {od_twins an_twins : Option Addr} {sl_twins : Array (Option Value)} {oc_twins kV_twins dc_twins pm_twins cd_twins ct_twins : Value}
    {f__law_sign : Addr}
    {od__law_sign an__law_sign : Option Addr} {sl__law_sign : Array (Option Value)} {oc__law_sign kV__law_sign dc__law_sign pm__law_sign cd__law_sign ct__law_sign : Value}
    {f__law_on : Addr}
    {od__law_on an__law_on : Option Addr} {sl__law_on : Array (Option Value)} {oc__law_on kV__law_on dc__law_on pm__law_on cd__law_on ct__law_on : Value}
    {f__law_ring_on : Addr}
    {od__law_ring_on an__law_ring_on : Option Addr} {sl__law_ring_on : Array (Option Value)} {oc__law_ring_on kV__law_ring_on dc__law_ring_on pm__law_ring_on cd__law_ring_on ct__law_ring_on : Value}
    {f_ring_on : Addr}
    {od_ring_on an_ring_on : Option Addr} {sl_ring_on : Array (Option Value)} {oc_ring_on kV_ring_on dc_ring_on pm_ring_on cd_ring_on ct_ring_on : Value}
    {f__law_ring_leads : Addr}
    {od__law_ring_leads an__law_ring_leads : Option Addr} {sl__law_ring_leads : Array (Option Value)} {oc__law_ring_leads kV__law_ring_leads dc__law_ring_leads pm__law_ring_leads cd__law_ring_leads ct__law_ring_leads : Value}
    {f__law_is_number : Addr}
    {od__law_is_number an__law_is_number : Option Addr} {sl__law_is_number : Array (Option Value)} {oc__law_is_number kV__law_is_number dc__law_is_number pm__law_is_number cd__law_is_number ct__law_is_number : Value}
    {od_law an_law : Option Addr} {sl_law : Array (Option Value)} {oc_law kV_law dc_law pm_law cd_law ct_law : Value}
    (b_ValueError : PySem.W.nsIn K mainGlobals "ValueError" = some none)
    (b_all : PySem.W.nsIn K mainGlobals "all" = some none)
    (b_bool : PySem.W.nsIn K mainGlobals "bool" = some none)
    (b_dict : PySem.W.nsIn K mainGlobals "dict" = some none)
    (b_enumerate : PySem.W.nsIn K mainGlobals "enumerate" = some none)
    (b_int : PySem.W.nsIn K mainGlobals "int" = some none)
    (b_isinstance : PySem.W.nsIn K mainGlobals "isinstance" = some none)
    (b_len : PySem.W.nsIn K mainGlobals "len" = some none)
    (b_list : PySem.W.nsIn K mainGlobals "list" = some none)
    (b_range : PySem.W.nsIn K mainGlobals "range" = some none)
    (b_sorted : PySem.W.nsIn K mainGlobals "sorted" = some none)
    (b_tuple : PySem.W.nsIn K mainGlobals "tuple" = some none)
    (k_MOST_SIGNS : PySem.W.nsIn K mainGlobals "MOST_SIGNS" = some (some (.int 4 t_MOST_SIGNS)))
    (k_MOST_WIDE : PySem.W.nsIn K mainGlobals "MOST_WIDE" = some (some (.int 4 t_MOST_WIDE)))
    (k_MOST_ROWS : PySem.W.nsIn K mainGlobals "MOST_ROWS" = some (some (.int 16 t_MOST_ROWS)))
    (g_RowError : PySem.W.nsIn K mainGlobals "RowError" = some (some (.ref C_RowError)))
    (q_RowError : PySem.W.excIn K C_RowError [.type "ValueError", .type "Exception", .type "BaseException", .type "object"] "ValueError.__new__" = true)
    (kp_RowError : PySem.W.keepIn K (.ref C_RowError) = true)
    (sb_RowError : PySem.W.subIn K (.ref C_RowError) (.type "BaseException") = some true)
    (ty_RowError : PySem.W.typeIn K (.ref C_RowError) = some (.type "type"))
    (g_BadRule : PySem.W.nsIn K mainGlobals "BadRule" = some (some (.ref C_BadRule)))
    (q_BadRule : PySem.W.excIn K C_BadRule [.type "ValueError", .type "Exception", .type "BaseException", .type "object"] "ValueError.__new__" = true)
    (kp_BadRule : PySem.W.keepIn K (.ref C_BadRule) = true)
    (sb_BadRule : PySem.W.subIn K (.ref C_BadRule) (.type "BaseException") = some true)
    (ty_BadRule : PySem.W.typeIn K (.ref C_BadRule) = some (.type "type"))
    (g_BadRow : PySem.W.nsIn K mainGlobals "BadRow" = some (some (.ref C_BadRow)))
    (q_BadRow : PySem.W.excIn K C_BadRow [.type "ValueError", .type "Exception", .type "BaseException", .type "object"] "ValueError.__new__" = true)
    (kp_BadRow : PySem.W.keepIn K (.ref C_BadRow) = true)
    (sb_BadRow : PySem.W.subIn K (.ref C_BadRow) (.type "BaseException") = some true)
    (ty_BadRow : PySem.W.typeIn K (.ref C_BadRow) = some (.type "type"))
    (g_TooWide : PySem.W.nsIn K mainGlobals "TooWide" = some (some (.ref C_TooWide)))
    (q_TooWide : PySem.W.excIn K C_TooWide [.type "ValueError", .type "Exception", .type "BaseException", .type "object"] "ValueError.__new__" = true)
    (kp_TooWide : PySem.W.keepIn K (.ref C_TooWide) = true)
    (sb_TooWide : PySem.W.subIn K (.ref C_TooWide) (.type "BaseException") = some true)
    (ty_TooWide : PySem.W.typeIn K (.ref C_TooWide) = some (.type "type"))
    (g_NoBack : PySem.W.nsIn K mainGlobals "NoBack" = some (some (.ref C_NoBack)))
    (q_NoBack : PySem.W.excIn K C_NoBack [.type "ValueError", .type "Exception", .type "BaseException", .type "object"] "ValueError.__new__" = true)
    (kp_NoBack : PySem.W.keepIn K (.ref C_NoBack) = true)
    (sb_NoBack : PySem.W.subIn K (.ref C_NoBack) (.type "BaseException") = some true)
    (ty_NoBack : PySem.W.typeIn K (.ref C_NoBack) = some (.type "type"))
    (g_BadText : PySem.W.nsIn K mainGlobals "BadText" = some (some (.ref C_BadText)))
    (q_BadText : PySem.W.excIn K C_BadText [.type "ValueError", .type "Exception", .type "BaseException", .type "object"] "ValueError.__new__" = true)
    (kp_BadText : PySem.W.keepIn K (.ref C_BadText) = true)
    (sb_BadText : PySem.W.subIn K (.ref C_BadText) (.type "BaseException") = some true)
    (ty_BadText : PySem.W.typeIn K (.ref C_BadText) = some (.type "type"))
    (ic_RowError : PySem.W.isClsIn K C_RowError = true)
    (ic_BadRule : PySem.W.isClsIn K C_BadRule = true)
    (ic_BadRow : PySem.W.isClsIn K C_BadRow = true)
    (ic_TooWide : PySem.W.isClsIn K C_TooWide = true)
    (ic_NoBack : PySem.W.isClsIn K C_NoBack = true)
    (ic_BadText : PySem.W.isClsIn K C_BadText = true)
    (e1_BadRow : PySem.W.findIn K (.ref C_BadRow) "__getattribute__" = some (some (.builtin "BaseException.__getattribute__")))
    (e2_BadRow : PySem.W.findIn K (.ref C_BadRow) "__getattr__" = some none)
    (e3_BadRow : PySem.W.hasDictIn K C_BadRow = true)
    (e4_BadRow : PySem.W.findIn K (.ref C_BadRow) "__class__" = some (some (.builtin "object.__class__")))
    (e5_BadRow : PySem.W.mroIn K C_BadRow (.type "object") = some true)
    (e1_NoBack : PySem.W.findIn K (.ref C_NoBack) "__getattribute__" = some (some (.builtin "BaseException.__getattribute__")))
    (e2_NoBack : PySem.W.findIn K (.ref C_NoBack) "__getattr__" = some none)
    (e3_NoBack : PySem.W.hasDictIn K C_NoBack = true)
    (e4_NoBack : PySem.W.findIn K (.ref C_NoBack) "__class__" = some (some (.builtin "object.__class__")))
    (e5_NoBack : PySem.W.mroIn K C_NoBack (.type "object") = some true)
    (em_BadRow : PySem.W.subIn K (.ref C_BadRow) (.ref C_RowError) = some true)
    (em_NoBack : PySem.W.subIn K (.ref C_NoBack) (.ref C_RowError) = some true)
    (ki_BadRow_BadRule : PySem.W.subIn K (.ref C_BadRow) (.ref C_BadRule) = some false)
    (ne_BadRow_BadRule : C_BadRow ≠ C_BadRule)
    (ki_BadRow_BadText : PySem.W.subIn K (.ref C_BadRow) (.ref C_BadText) = some false)
    (ne_BadRow_BadText : C_BadRow ≠ C_BadText)
    (ki_BadRow_NoBack : PySem.W.subIn K (.ref C_BadRow) (.ref C_NoBack) = some false)
    (ne_BadRow_NoBack : C_BadRow ≠ C_NoBack)
    (ki_BadRow_TooWide : PySem.W.subIn K (.ref C_BadRow) (.ref C_TooWide) = some false)
    (ne_BadRow_TooWide : C_BadRow ≠ C_TooWide)
    (ki_NoBack_BadRow : PySem.W.subIn K (.ref C_NoBack) (.ref C_BadRow) = some false)
    (ne_NoBack_BadRow : C_NoBack ≠ C_BadRow)
    (ki_NoBack_BadRule : PySem.W.subIn K (.ref C_NoBack) (.ref C_BadRule) = some false)
    (ne_NoBack_BadRule : C_NoBack ≠ C_BadRule)
    (ki_NoBack_BadText : PySem.W.subIn K (.ref C_NoBack) (.ref C_BadText) = some false)
    (ne_NoBack_BadText : C_NoBack ≠ C_BadText)
    (ki_NoBack_TooWide : PySem.W.subIn K (.ref C_NoBack) (.ref C_TooWide) = some false)
    (ne_NoBack_TooWide : C_NoBack ≠ C_TooWide)
    (kv_BadRow : PySem.W.subIn K (.ref C_BadRow) (.type "ValueError") = some true)
    (kv_NoBack : PySem.W.subIn K (.ref C_NoBack) (.type "ValueError") = some true)
    (hn : PySem.W.specialIn K (.builtin "object.__class__") "__get__" = some (some (.builtin "getset_descriptor.__get__")))
    (ht : PySem.W.takesIn K (.builtin "object.__class__") = some true)
    (a__law_cell_at : PySem.W.nsIn K mainGlobals "_law_cell_at" = some (some (.ref f__law_cell_at)))
    (l__law_cell_at : K.lookup f__law_cell_at = some ⟨oc__law_cell_at, od__law_cell_at, .func (PySem.W.fnOf "_law_cell_at" "_law_cell_at" (defArgs s__law_cell_at) (defBody s__law_cell_at) (defScope s__law_cell_at) .none kV__law_cell_at dc__law_cell_at pm__law_cell_at an__law_cell_at cd__law_cell_at ct__law_cell_at), sl__law_cell_at⟩)
    (c__law_cell_at : PySem.W.codeIn K cd__law_cell_at "_law_cell_at" = true)
    (x__law_cell_at : PySem.W.keepIn K (.ref f__law_cell_at) = true)
    (a__law_mixed : PySem.W.nsIn K mainGlobals "_law_mixed" = some (some (.ref f__law_mixed)))
    (l__law_mixed : K.lookup f__law_mixed = some ⟨oc__law_mixed, od__law_mixed, .func (PySem.W.fnOf "_law_mixed" "_law_mixed" (defArgs s__law_mixed) (defBody s__law_mixed) (defScope s__law_mixed) .none kV__law_mixed dc__law_mixed pm__law_mixed an__law_mixed cd__law_mixed ct__law_mixed), sl__law_mixed⟩)
    (c__law_mixed : PySem.W.codeIn K cd__law_mixed "_law_mixed" = true)
    (x__law_mixed : PySem.W.keepIn K (.ref f__law_mixed) = true)
    (a__law_random : PySem.W.nsIn K mainGlobals "_law_random" = some (some (.ref f__law_random)))
    (l__law_random : K.lookup f__law_random = some ⟨oc__law_random, od__law_random, .func (PySem.W.fnOf "_law_random" "_law_random" (defArgs s__law_random) (defBody s__law_random) (defScope s__law_random) .none kV__law_random dc__law_random pm__law_random an__law_random cd__law_random ct__law_random), sl__law_random⟩)
    (c__law_random : PySem.W.codeIn K cd__law_random "_law_random" = true)
    (x__law_random : PySem.W.keepIn K (.ref f__law_random) = true)
    (a__law_mending : PySem.W.nsIn K mainGlobals "_law_mending" = some (some (.ref f__law_mending)))
    (l__law_mending : K.lookup f__law_mending = some ⟨oc__law_mending, od__law_mending, .func (PySem.W.fnOf "_law_mending" "_law_mending" (defArgs s__law_mending) (defBody s__law_mending) (defScope s__law_mending) .none kV__law_mending dc__law_mending pm__law_mending an__law_mending cd__law_mending ct__law_mending), sl__law_mending⟩)
    (c__law_mending : PySem.W.codeIn K cd__law_mending "_law_mending" = true)
    (x__law_mending : PySem.W.keepIn K (.ref f__law_mending) = true)
    (a__law_beside : PySem.W.nsIn K mainGlobals "_law_beside" = some (some (.ref f__law_beside)))
    (l__law_beside : K.lookup f__law_beside = some ⟨oc__law_beside, od__law_beside, .func (PySem.W.fnOf "_law_beside" "_law_beside" (defArgs s__law_beside) (defBody s__law_beside) (defScope s__law_beside) .none kV__law_beside dc__law_beside pm__law_beside an__law_beside cd__law_beside ct__law_beside), sl__law_beside⟩)
    (c__law_beside : PySem.W.codeIn K cd__law_beside "_law_beside" = true)
    (x__law_beside : PySem.W.keepIn K (.ref f__law_beside) = true)
    (a__law_between : PySem.W.nsIn K mainGlobals "_law_between" = some (some (.ref f__law_between)))
    (l__law_between : K.lookup f__law_between = some ⟨oc__law_between, od__law_between, .func (PySem.W.fnOf "_law_between" "_law_between" (defArgs s__law_between) (defBody s__law_between) (defScope s__law_between) .none kV__law_between dc__law_between pm__law_between an__law_between cd__law_between ct__law_between), sl__law_between⟩)
    (c__law_between : PySem.W.codeIn K cd__law_between "_law_between" = true)
    (x__law_between : PySem.W.keepIn K (.ref f__law_between) = true)
    (a__law_turned : PySem.W.nsIn K mainGlobals "_law_turned" = some (some (.ref f__law_turned)))
    (l__law_turned : K.lookup f__law_turned = some ⟨oc__law_turned, od__law_turned, .func (PySem.W.fnOf "_law_turned" "_law_turned" (defArgs s__law_turned) (defBody s__law_turned) (defScope s__law_turned) .none kV__law_turned dc__law_turned pm__law_turned an__law_turned cd__law_turned ct__law_turned), sl__law_turned⟩)
    (c__law_turned : PySem.W.codeIn K cd__law_turned "_law_turned" = true)
    (x__law_turned : PySem.W.keepIn K (.ref f__law_turned) = true)
    (a__law_rule : PySem.W.nsIn K mainGlobals "_law_rule" = some (some (.ref f__law_rule)))
    (l__law_rule : K.lookup f__law_rule = some ⟨oc__law_rule, od__law_rule, .func (PySem.W.fnOf "_law_rule" "_law_rule" (defArgs s__law_rule) (defBody s__law_rule) (defScope s__law_rule) .none kV__law_rule dc__law_rule pm__law_rule an__law_rule cd__law_rule ct__law_rule), sl__law_rule⟩)
    (c__law_rule : PySem.W.codeIn K cd__law_rule "_law_rule" = true)
    (x__law_rule : PySem.W.keepIn K (.ref f__law_rule) = true)
    (a_is_among : PySem.W.nsIn K mainGlobals "is_among" = some (some (.ref f_is_among)))
    (l_is_among : K.lookup f_is_among = some ⟨oc_is_among, od_is_among, .func (PySem.W.fnOf "is_among" "is_among" (defArgs s_is_among) (defBody s_is_among) (defScope s_is_among) .none kV_is_among dc_is_among pm_is_among an_is_among cd_is_among ct_is_among), sl_is_among⟩)
    (c_is_among : PySem.W.codeIn K cd_is_among "is_among" = true)
    (x_is_among : PySem.W.keepIn K (.ref f_is_among) = true)
    (a_rows_of : PySem.W.nsIn K mainGlobals "rows_of" = some (some (.ref f_rows_of)))
    (l_rows_of : K.lookup f_rows_of = some ⟨oc_rows_of, od_rows_of, .func (PySem.W.fnOf "rows_of" "rows_of" (defArgs s_rows_of) (defBody s_rows_of) (defScope s_rows_of) .none kV_rows_of dc_rows_of pm_rows_of an_rows_of cd_rows_of ct_rows_of), sl_rows_of⟩)
    (c_rows_of : PySem.W.codeIn K cd_rows_of "rows_of" = true)
    (x_rows_of : PySem.W.keepIn K (.ref f_rows_of) = true)
    (a_is_rule : PySem.W.nsIn K mainGlobals "is_rule" = some (some (.ref f_is_rule)))
    (l_is_rule : K.lookup f_is_rule = some ⟨oc_is_rule, od_is_rule, .func (PySem.W.fnOf "is_rule" "is_rule" (defArgs s_is_rule) (defBody s_is_rule) (defScope s_is_rule) .none kV_is_rule dc_is_rule pm_is_rule an_is_rule cd_is_rule ct_is_rule), sl_is_rule⟩)
    (c_is_rule : PySem.W.codeIn K cd_is_rule "is_rule" = true)
    (x_is_rule : PySem.W.keepIn K (.ref f_is_rule) = true)
    (a_need_rule : PySem.W.nsIn K mainGlobals "need_rule" = some (some (.ref f_need_rule)))
    (l_need_rule : K.lookup f_need_rule = some ⟨oc_need_rule, od_need_rule, .func (PySem.W.fnOf "need_rule" "need_rule" (defArgs s_need_rule) (defBody s_need_rule) (defScope s_need_rule) .none kV_need_rule dc_need_rule pm_need_rule an_need_rule cd_need_rule ct_need_rule), sl_need_rule⟩)
    (c_need_rule : PySem.W.codeIn K cd_need_rule "need_rule" = true)
    (x_need_rule : PySem.W.keepIn K (.ref f_need_rule) = true)
    (a_pairs_on : PySem.W.nsIn K mainGlobals "pairs_on" = some (some (.ref f_pairs_on)))
    (l_pairs_on : K.lookup f_pairs_on = some ⟨oc_pairs_on, od_pairs_on, .func (PySem.W.fnOf "pairs_on" "pairs_on" (defArgs s_pairs_on) (defBody s_pairs_on) (defScope s_pairs_on) .none kV_pairs_on dc_pairs_on pm_pairs_on an_pairs_on cd_pairs_on ct_pairs_on), sl_pairs_on⟩)
    (c_pairs_on : PySem.W.codeIn K cd_pairs_on "pairs_on" = true)
    (x_pairs_on : PySem.W.keepIn K (.ref f_pairs_on) = true)
    (a_all_pairs : PySem.W.nsIn K mainGlobals "all_pairs" = some (some (.ref f_all_pairs)))
    (l_all_pairs : K.lookup f_all_pairs = some ⟨oc_all_pairs, od_all_pairs, .func (PySem.W.fnOf "all_pairs" "all_pairs" (defArgs s_all_pairs) (defBody s_all_pairs) (defScope s_all_pairs) .none kV_all_pairs dc_all_pairs pm_all_pairs an_all_pairs cd_all_pairs ct_all_pairs), sl_all_pairs⟩)
    (c_all_pairs : PySem.W.codeIn K cd_all_pairs "all_pairs" = true)
    (x_all_pairs : PySem.W.keepIn K (.ref f_all_pairs) = true)
    (a_all_steps : PySem.W.nsIn K mainGlobals "all_steps" = some (some (.ref f_all_steps)))
    (l_all_steps : K.lookup f_all_steps = some ⟨oc_all_steps, od_all_steps, .func (PySem.W.fnOf "all_steps" "all_steps" (defArgs s_all_steps) (defBody s_all_steps) (defScope s_all_steps) .none kV_all_steps dc_all_steps pm_all_steps an_all_steps cd_all_steps ct_all_steps), sl_all_steps⟩)
    (c_all_steps : PySem.W.codeIn K cd_all_steps "all_steps" = true)
    (x_all_steps : PySem.W.keepIn K (.ref f_all_steps) = true)
    (a_parting : PySem.W.nsIn K mainGlobals "parting" = some (some (.ref f_parting)))
    (l_parting : K.lookup f_parting = some ⟨oc_parting, od_parting, .func (PySem.W.fnOf "parting" "parting" (defArgs s_parting) (defBody s_parting) (defScope s_parting) .none kV_parting dc_parting pm_parting an_parting cd_parting ct_parting), sl_parting⟩)
    (c_parting : PySem.W.codeIn K cd_parting "parting" = true)
    (x_parting : PySem.W.keepIn K (.ref f_parting) = true)
    (a_is_told : PySem.W.nsIn K mainGlobals "is_told" = some (some (.ref f_is_told)))
    (l_is_told : K.lookup f_is_told = some ⟨oc_is_told, od_is_told, .func (PySem.W.fnOf "is_told" "is_told" (defArgs s_is_told) (defBody s_is_told) (defScope s_is_told) .none kV_is_told dc_is_told pm_is_told an_is_told cd_is_told ct_is_told), sl_is_told⟩)
    (c_is_told : PySem.W.codeIn K cd_is_told "is_told" = true)
    (x_is_told : PySem.W.keepIn K (.ref f_is_told) = true)
    (a_led_to : PySem.W.nsIn K mainGlobals "led_to" = some (some (.ref f_led_to)))
    (l_led_to : K.lookup f_led_to = some ⟨oc_led_to, od_led_to, .func (PySem.W.fnOf "led_to" "led_to" (defArgs s_led_to) (defBody s_led_to) (defScope s_led_to) .none kV_led_to dc_led_to pm_led_to an_led_to cd_led_to ct_led_to), sl_led_to⟩)
    (c_led_to : PySem.W.codeIn K cd_led_to "led_to" = true)
    (x_led_to : PySem.W.keepIn K (.ref f_led_to) = true)
    (a_leading_to : PySem.W.nsIn K mainGlobals "leading_to" = some (some (.ref f_leading_to)))
    (l_leading_to : K.lookup f_leading_to = some ⟨oc_leading_to, od_leading_to, .func (PySem.W.fnOf "leading_to" "leading_to" (defArgs s_leading_to) (defBody s_leading_to) (defScope s_leading_to) .none kV_leading_to dc_leading_to pm_leading_to an_leading_to cd_leading_to ct_leading_to), sl_leading_to⟩)
    (c_leading_to : PySem.W.codeIn K cd_leading_to "leading_to" = true)
    (x_leading_to : PySem.W.keepIn K (.ref f_leading_to) = true)
    (a_searched_backing : PySem.W.nsIn K mainGlobals "searched_backing" = some (some (.ref f_searched_backing)))
    (l_searched_backing : K.lookup f_searched_backing = some ⟨oc_searched_backing, od_searched_backing, .func (PySem.W.fnOf "searched" "searched" (defArgs s_searched_backing) (defBody s_searched_backing) (defScope s_searched_backing) .none kV_searched_backing dc_searched_backing pm_searched_backing an_searched_backing cd_searched_backing ct_searched_backing), sl_searched_backing⟩)
    (c_searched_backing : PySem.W.codeIn K cd_searched_backing "searched" = true)
    (x_searched_backing : PySem.W.keepIn K (.ref f_searched_backing) = true)
    (a_way_back : PySem.W.nsIn K mainGlobals "way_back" = some (some (.ref f_way_back)))
    (l_way_back : K.lookup f_way_back = some ⟨oc_way_back, od_way_back, .func (PySem.W.fnOf "way_back" "way_back" (defArgs s_way_back) (defBody s_way_back) (defScope s_way_back) .none kV_way_back dc_way_back pm_way_back an_way_back cd_way_back ct_way_back), sl_way_back⟩)
    (c_way_back : PySem.W.codeIn K cd_way_back "way_back" = true)
    (x_way_back : PySem.W.keepIn K (.ref f_way_back) = true)
    (a_way_from : PySem.W.nsIn K mainGlobals "way_from" = some (some (.ref f_way_from)))
    (l_way_from : K.lookup f_way_from = some ⟨oc_way_from, od_way_from, .func (PySem.W.fnOf "way_from" "way_from" (defArgs s_way_from) (defBody s_way_from) (defScope s_way_from) .none kV_way_from dc_way_from pm_way_from an_way_from cd_way_from ct_way_from), sl_way_from⟩)
    (c_way_from : PySem.W.codeIn K cd_way_from "way_from" = true)
    (x_way_from : PySem.W.keepIn K (.ref f_way_from) = true)
    (a_is_shorter : PySem.W.nsIn K mainGlobals "is_shorter" = some (some (.ref f_is_shorter)))
    (l_is_shorter : K.lookup f_is_shorter = some ⟨oc_is_shorter, od_is_shorter, .func (PySem.W.fnOf "is_shorter" "is_shorter" (defArgs s_is_shorter) (defBody s_is_shorter) (defScope s_is_shorter) .none kV_is_shorter dc_is_shorter pm_is_shorter an_is_shorter cd_is_shorter ct_is_shorter), sl_is_shorter⟩)
    (c_is_shorter : PySem.W.codeIn K cd_is_shorter "is_shorter" = true)
    (x_is_shorter : PySem.W.keepIn K (.ref f_is_shorter) = true)
    (a_rings : PySem.W.nsIn K mainGlobals "rings" = some (some (.ref f_rings)))
    (l_rings : K.lookup f_rings = some ⟨oc_rings, od_rings, .func (PySem.W.fnOf "rings" "rings" (defArgs s_rings) (defBody s_rings) (defScope s_rings) .none kV_rings dc_rings pm_rings an_rings cd_rings ct_rings), sl_rings⟩)
    (c_rings : PySem.W.codeIn K cd_rings "rings" = true)
    (x_rings : PySem.W.keepIn K (.ref f_rings) = true)
    (a_bounds : PySem.W.nsIn K mainGlobals "bounds" = some (some (.ref f_bounds)))
    (l_bounds : K.lookup f_bounds = some ⟨oc_bounds, od_bounds, .func (PySem.W.fnOf "bounds" "bounds" (defArgs s_bounds) (defBody s_bounds) (defScope s_bounds) .none kV_bounds dc_bounds pm_bounds an_bounds cd_bounds ct_bounds), sl_bounds⟩)
    (c_bounds : PySem.W.codeIn K cd_bounds "bounds" = true)
    (x_bounds : PySem.W.keepIn K (.ref f_bounds) = true)
    (a__law_odd : PySem.W.nsIn K mainGlobals "_law_odd" = some (some (.ref f__law_odd)))
    (l__law_odd : K.lookup f__law_odd = some ⟨oc__law_odd, od__law_odd, .func (PySem.W.fnOf "_law_odd" "_law_odd" (defArgs s__law_odd) (defBody s__law_odd) (defScope s__law_odd) .none kV__law_odd dc__law_odd pm__law_odd an__law_odd cd__law_odd ct__law_odd), sl__law_odd⟩)
    (c__law_odd : PySem.W.codeIn K cd__law_odd "_law_odd" = true)
    (x__law_odd : PySem.W.keepIn K (.ref f__law_odd) = true)
    (a__law_piece : PySem.W.nsIn K mainGlobals "_law_piece" = some (some (.ref f__law_piece)))
    (l__law_piece : K.lookup f__law_piece = some ⟨oc__law_piece, od__law_piece, .func (PySem.W.fnOf "_law_piece" "_law_piece" (defArgs s__law_piece) (defBody s__law_piece) (defScope s__law_piece) .none kV__law_piece dc__law_piece pm__law_piece an__law_piece cd__law_piece ct__law_piece), sl__law_piece⟩)
    (c__law_piece : PySem.W.codeIn K cd__law_piece "_law_piece" = true)
    (x__law_piece : PySem.W.keepIn K (.ref f__law_piece) = true)
    (a__law_ring_by : PySem.W.nsIn K mainGlobals "_law_ring_by" = some (some (.ref f__law_ring_by)))
    (l__law_ring_by : K.lookup f__law_ring_by = some ⟨oc__law_ring_by, od__law_ring_by, .func (PySem.W.fnOf "_law_ring_by" "_law_ring_by" (defArgs s__law_ring_by) (defBody s__law_ring_by) (defScope s__law_ring_by) .none kV__law_ring_by dc__law_ring_by pm__law_ring_by an__law_ring_by cd__law_ring_by ct__law_ring_by), sl__law_ring_by⟩)
    (c__law_ring_by : PySem.W.codeIn K cd__law_ring_by "_law_ring_by" = true)
    (x__law_ring_by : PySem.W.keepIn K (.ref f__law_ring_by) = true)
    (a_is_piece : PySem.W.nsIn K mainGlobals "is_piece" = some (some (.ref f_is_piece)))
    (l_is_piece : K.lookup f_is_piece = some ⟨oc_is_piece, od_is_piece, .func (PySem.W.fnOf "is_piece" "is_piece" (defArgs s_is_piece) (defBody s_is_piece) (defScope s_is_piece) .none kV_is_piece dc_is_piece pm_is_piece an_is_piece cd_is_piece ct_is_piece), sl_is_piece⟩)
    (c_is_piece : PySem.W.codeIn K cd_is_piece "is_piece" = true)
    (x_is_piece : PySem.W.keepIn K (.ref f_is_piece) = true)
    (a_need_piece : PySem.W.nsIn K mainGlobals "need_piece" = some (some (.ref f_need_piece)))
    (l_need_piece : K.lookup f_need_piece = some ⟨oc_need_piece, od_need_piece, .func (PySem.W.fnOf "need_piece" "need_piece" (defArgs s_need_piece) (defBody s_need_piece) (defScope s_need_piece) .none kV_need_piece dc_need_piece pm_need_piece an_need_piece cd_need_piece ct_need_piece), sl_need_piece⟩)
    (c_need_piece : PySem.W.codeIn K cd_need_piece "need_piece" = true)
    (x_need_piece : PySem.W.keepIn K (.ref f_need_piece) = true)
    (a_number_of : PySem.W.nsIn K mainGlobals "number_of" = some (some (.ref f_number_of)))
    (l_number_of : K.lookup f_number_of = some ⟨oc_number_of, od_number_of, .func (PySem.W.fnOf "number_of" "number_of" (defArgs s_number_of) (defBody s_number_of) (defScope s_number_of) .none kV_number_of dc_number_of pm_number_of an_number_of cd_number_of ct_number_of), sl_number_of⟩)
    (c_number_of : PySem.W.codeIn K cd_number_of "number_of" = true)
    (x_number_of : PySem.W.keepIn K (.ref f_number_of) = true)
    (a_told_by : PySem.W.nsIn K mainGlobals "told_by" = some (some (.ref f_told_by)))
    (l_told_by : K.lookup f_told_by = some ⟨oc_told_by, od_told_by, .func (PySem.W.fnOf "told_by" "told_by" (defArgs s_told_by) (defBody s_told_by) (defScope s_told_by) .none kV_told_by dc_told_by pm_told_by an_told_by cd_told_by ct_told_by), sl_told_by⟩)
    (c_told_by : PySem.W.codeIn K cd_told_by "told_by" = true)
    (x_told_by : PySem.W.keepIn K (.ref f_told_by) = true)
    (a_piece_on : PySem.W.nsIn K mainGlobals "piece_on" = some (some (.ref f_piece_on)))
    (l_piece_on : K.lookup f_piece_on = some ⟨oc_piece_on, od_piece_on, .func (PySem.W.fnOf "piece_on" "piece_on" (defArgs s_piece_on) (defBody s_piece_on) (defScope s_piece_on) .none kV_piece_on dc_piece_on pm_piece_on an_piece_on cd_piece_on ct_piece_on), sl_piece_on⟩)
    (c_piece_on : PySem.W.codeIn K cd_piece_on "piece_on" = true)
    (x_piece_on : PySem.W.keepIn K (.ref f_piece_on) = true)
    (a__law_signs : PySem.W.nsIn K mainGlobals "_law_signs" = some (some (.ref f__law_signs)))
    (l__law_signs : K.lookup f__law_signs = some ⟨oc__law_signs, od__law_signs, .func (PySem.W.fnOf "_law_signs" "_law_signs" (defArgs s__law_signs) (defBody s__law_signs) (defScope s__law_signs) .none kV__law_signs dc__law_signs pm__law_signs an__law_signs cd__law_signs ct__law_signs), sl__law_signs⟩)
    (c__law_signs : PySem.W.codeIn K cd__law_signs "_law_signs" = true)
    (x__law_signs : PySem.W.keepIn K (.ref f__law_signs) = true)
    (a_need_bounds : PySem.W.nsIn K mainGlobals "need_bounds" = some (some (.ref f_need_bounds)))
    (l_need_bounds : K.lookup f_need_bounds = some ⟨oc_need_bounds, od_need_bounds, .func (PySem.W.fnOf "need_bounds" "need_bounds" (defArgs s_need_bounds) (defBody s_need_bounds) (defScope s_need_bounds) .none kV_need_bounds dc_need_bounds pm_need_bounds an_need_bounds cd_need_bounds ct_need_bounds), sl_need_bounds⟩)
    (c_need_bounds : PySem.W.codeIn K cd_need_bounds "need_bounds" = true)
    (x_need_bounds : PySem.W.keepIn K (.ref f_need_bounds) = true)
    (a_steps_of : PySem.W.nsIn K mainGlobals "steps_of" = some (some (.ref f_steps_of)))
    (l_steps_of : K.lookup f_steps_of = some ⟨oc_steps_of, od_steps_of, .func (PySem.W.fnOf "steps_of" "steps_of" (defArgs s_steps_of) (defBody s_steps_of) (defScope s_steps_of) .none kV_steps_of dc_steps_of pm_steps_of an_steps_of cd_steps_of ct_steps_of), sl_steps_of⟩)
    (c_steps_of : PySem.W.codeIn K cd_steps_of "steps_of" = true)
    (x_steps_of : PySem.W.keepIn K (.ref f_steps_of) = true)
    (a_leading_on : PySem.W.nsIn K mainGlobals "leading_on" = some (some (.ref f_leading_on)))
    (l_leading_on : K.lookup f_leading_on = some ⟨oc_leading_on, od_leading_on, .func (PySem.W.fnOf "leading_on" "leading_on" (defArgs s_leading_on) (defBody s_leading_on) (defScope s_leading_on) .none kV_leading_on dc_leading_on pm_leading_on an_leading_on cd_leading_on ct_leading_on), sl_leading_on⟩)
    (c_leading_on : PySem.W.codeIn K cd_leading_on "leading_on" = true)
    (x_leading_on : PySem.W.keepIn K (.ref f_leading_on) = true)
    (a_cells_of : PySem.W.nsIn K mainGlobals "cells_of" = some (some (.ref f_cells_of)))
    (l_cells_of : K.lookup f_cells_of = some ⟨oc_cells_of, od_cells_of, .func (PySem.W.fnOf "cells_of" "cells_of" (defArgs s_cells_of) (defBody s_cells_of) (defScope s_cells_of) .none kV_cells_of dc_cells_of pm_cells_of an_cells_of cd_cells_of ct_cells_of), sl_cells_of⟩)
    (c_cells_of : PySem.W.codeIn K cd_cells_of "cells_of" = true)
    (x_cells_of : PySem.W.keepIn K (.ref f_cells_of) = true)
    (a_least_origin : PySem.W.nsIn K mainGlobals "least_origin" = some (some (.ref f_least_origin)))
    (l_least_origin : K.lookup f_least_origin = some ⟨oc_least_origin, od_least_origin, .func (PySem.W.fnOf "least_origin" "least_origin" (defArgs s_least_origin) (defBody s_least_origin) (defScope s_least_origin) .none kV_least_origin dc_least_origin pm_least_origin an_least_origin cd_least_origin ct_least_origin), sl_least_origin⟩)
    (c_least_origin : PySem.W.codeIn K cd_least_origin "least_origin" = true)
    (x_least_origin : PySem.W.keepIn K (.ref f_least_origin) = true)
    (a_told_back : PySem.W.nsIn K mainGlobals "told_back" = some (some (.ref f_told_back)))
    (l_told_back : K.lookup f_told_back = some ⟨oc_told_back, od_told_back, .func (PySem.W.fnOf "told_back" "told_back" (defArgs s_told_back) (defBody s_told_back) (defScope s_told_back) .none kV_told_back dc_told_back pm_told_back an_told_back cd_told_back ct_told_back), sl_told_back⟩)
    (c_told_back : PySem.W.codeIn K cd_told_back "told_back" = true)
    (x_told_back : PySem.W.keepIn K (.ref f_told_back) = true)
    (a_piece_back : PySem.W.nsIn K mainGlobals "piece_back" = some (some (.ref f_piece_back)))
    (l_piece_back : K.lookup f_piece_back = some ⟨oc_piece_back, od_piece_back, .func (PySem.W.fnOf "piece_back" "piece_back" (defArgs s_piece_back) (defBody s_piece_back) (defScope s_piece_back) .none kV_piece_back dc_piece_back pm_piece_back an_piece_back cd_piece_back ct_piece_back), sl_piece_back⟩)
    (c_piece_back : PySem.W.codeIn K cd_piece_back "piece_back" = true)
    (x_piece_back : PySem.W.keepIn K (.ref f_piece_back) = true)
    (a_around : PySem.W.nsIn K mainGlobals "around" = some (some (.ref f_around)))
    (l_around : K.lookup f_around = some ⟨oc_around, od_around, .func (PySem.W.fnOf "around" "around" (defArgs s_around) (defBody s_around) (defScope s_around) .none kV_around dc_around pm_around an_around cd_around ct_around), sl_around⟩)
    (c_around : PySem.W.codeIn K cd_around "around" = true)
    (x_around : PySem.W.keepIn K (.ref f_around) = true)
    (a_ring_back : PySem.W.nsIn K mainGlobals "ring_back" = some (some (.ref f_ring_back)))
    (l_ring_back : K.lookup f_ring_back = some ⟨oc_ring_back, od_ring_back, .func (PySem.W.fnOf "ring_back" "ring_back" (defArgs s_ring_back) (defBody s_ring_back) (defScope s_ring_back) .none kV_ring_back dc_ring_back pm_ring_back an_ring_back cd_ring_back ct_ring_back), sl_ring_back⟩)
    (c_ring_back : PySem.W.codeIn K cd_ring_back "ring_back" = true)
    (x_ring_back : PySem.W.keepIn K (.ref f_ring_back) = true)
    (a__law_word : PySem.W.nsIn K mainGlobals "_law_word" = some (some (.ref f__law_word)))
    (l__law_word : K.lookup f__law_word = some ⟨oc__law_word, od__law_word, .func (PySem.W.fnOf "_law_word" "_law_word" (defArgs s__law_word) (defBody s__law_word) (defScope s__law_word) .none kV__law_word dc__law_word pm__law_word an__law_word cd__law_word ct__law_word), sl__law_word⟩)
    (c__law_word : PySem.W.codeIn K cd__law_word "_law_word" = true)
    (x__law_word : PySem.W.keepIn K (.ref f__law_word) = true)
    (a__law_told : PySem.W.nsIn K mainGlobals "_law_told" = some (some (.ref f__law_told)))
    (l__law_told : K.lookup f__law_told = some ⟨oc__law_told, od__law_told, .func (PySem.W.fnOf "_law_told" "_law_told" (defArgs s__law_told) (defBody s__law_told) (defScope s__law_told) .none kV__law_told dc__law_told pm__law_told an__law_told cd__law_told ct__law_told), sl__law_told⟩)
    (c__law_told : PySem.W.codeIn K cd__law_told "_law_told" = true)
    (x__law_told : PySem.W.keepIn K (.ref f__law_told) = true)
    (a__law_piece_leads : PySem.W.nsIn K mainGlobals "_law_piece_leads" = some (some (.ref f__law_piece_leads)))
    (l__law_piece_leads : K.lookup f__law_piece_leads = some ⟨oc__law_piece_leads, od__law_piece_leads, .func (PySem.W.fnOf "_law_piece_leads" "_law_piece_leads" (defArgs s__law_piece_leads) (defBody s__law_piece_leads) (defScope s__law_piece_leads) .none kV__law_piece_leads dc__law_piece_leads pm__law_piece_leads an__law_piece_leads cd__law_piece_leads ct__law_piece_leads), sl__law_piece_leads⟩)
    (c__law_piece_leads : PySem.W.codeIn K cd__law_piece_leads "_law_piece_leads" = true)
    (x__law_piece_leads : PySem.W.keepIn K (.ref f__law_piece_leads) = true)
    (a_first_ends : PySem.W.nsIn K mainGlobals "first_ends" = some (some (.ref f_first_ends)))
    (l_first_ends : K.lookup f_first_ends = some ⟨oc_first_ends, od_first_ends, .func (PySem.W.fnOf "first_ends" "first_ends" (defArgs s_first_ends) (defBody s_first_ends) (defScope s_first_ends) .none kV_first_ends dc_first_ends pm_first_ends an_first_ends cd_first_ends ct_first_ends), sl_first_ends⟩)
    (c_first_ends : PySem.W.codeIn K cd_first_ends "first_ends" = true)
    (x_first_ends : PySem.W.keepIn K (.ref f_first_ends) = true)
    (a_further_ends : PySem.W.nsIn K mainGlobals "further_ends" = some (some (.ref f_further_ends)))
    (l_further_ends : K.lookup f_further_ends = some ⟨oc_further_ends, od_further_ends, .func (PySem.W.fnOf "further_ends" "further_ends" (defArgs s_further_ends) (defBody s_further_ends) (defScope s_further_ends) .none kV_further_ends dc_further_ends pm_further_ends an_further_ends cd_further_ends ct_further_ends), sl_further_ends⟩)
    (c_further_ends : PySem.W.codeIn K cd_further_ends "further_ends" = true)
    (x_further_ends : PySem.W.keepIn K (.ref f_further_ends) = true)
    (a_searched_ends : PySem.W.nsIn K mainGlobals "searched_ends" = some (some (.ref f_searched_ends)))
    (l_searched_ends : K.lookup f_searched_ends = some ⟨oc_searched_ends, od_searched_ends, .func (PySem.W.fnOf "searched" "searched" (defArgs s_searched_ends) (defBody s_searched_ends) (defScope s_searched_ends) .none kV_searched_ends dc_searched_ends pm_searched_ends an_searched_ends cd_searched_ends ct_searched_ends), sl_searched_ends⟩)
    (c_searched_ends : PySem.W.codeIn K cd_searched_ends "searched" = true)
    (x_searched_ends : PySem.W.keepIn K (.ref f_searched_ends) = true)
    (a_missing : PySem.W.nsIn K mainGlobals "missing" = some (some (.ref f_missing)))
    (l_missing : K.lookup f_missing = some ⟨oc_missing, od_missing, .func (PySem.W.fnOf "missing" "missing" (defArgs s_missing) (defBody s_missing) (defScope s_missing) .none kV_missing dc_missing pm_missing an_missing cd_missing ct_missing), sl_missing⟩)
    (c_missing : PySem.W.codeIn K cd_missing "missing" = true)
    (x_missing : PySem.W.keepIn K (.ref f_missing) = true)
    (a_like_pairs : PySem.W.nsIn K mainGlobals "like_pairs" = some (some (.ref f_like_pairs)))
    (l_like_pairs : K.lookup f_like_pairs = some ⟨oc_like_pairs, od_like_pairs, .func (PySem.W.fnOf "like_pairs" "like_pairs" (defArgs s_like_pairs) (defBody s_like_pairs) (defScope s_like_pairs) .none kV_like_pairs dc_like_pairs pm_like_pairs an_like_pairs cd_like_pairs ct_like_pairs), sl_like_pairs⟩)
    (c_like_pairs : PySem.W.codeIn K cd_like_pairs "like_pairs" = true)
    (x_like_pairs : PySem.W.keepIn K (.ref f_like_pairs) = true)
    (a_twins : PySem.W.nsIn K mainGlobals "twins" = some (some (.ref f_twins)))
    (l_twins : K.lookup f_twins = some ⟨oc_twins, od_twins, .func (PySem.W.fnOf "twins" "twins" (defArgs s_twins) (defBody s_twins) (defScope s_twins) .none kV_twins dc_twins pm_twins an_twins cd_twins ct_twins), sl_twins⟩)
    (c_twins : PySem.W.codeIn K cd_twins "twins" = true)
    (x_twins : PySem.W.keepIn K (.ref f_twins) = true)
    (a__law_sign : PySem.W.nsIn K mainGlobals "_law_sign" = some (some (.ref f__law_sign)))
    (l__law_sign : K.lookup f__law_sign = some ⟨oc__law_sign, od__law_sign, .func (PySem.W.fnOf "_law_sign" "_law_sign" (defArgs s__law_sign) (defBody s__law_sign) (defScope s__law_sign) .none kV__law_sign dc__law_sign pm__law_sign an__law_sign cd__law_sign ct__law_sign), sl__law_sign⟩)
    (c__law_sign : PySem.W.codeIn K cd__law_sign "_law_sign" = true)
    (x__law_sign : PySem.W.keepIn K (.ref f__law_sign) = true)
    (a__law_on : PySem.W.nsIn K mainGlobals "_law_on" = some (some (.ref f__law_on)))
    (l__law_on : K.lookup f__law_on = some ⟨oc__law_on, od__law_on, .func (PySem.W.fnOf "_law_on" "_law_on" (defArgs s__law_on) (defBody s__law_on) (defScope s__law_on) .none kV__law_on dc__law_on pm__law_on an__law_on cd__law_on ct__law_on), sl__law_on⟩)
    (c__law_on : PySem.W.codeIn K cd__law_on "_law_on" = true)
    (x__law_on : PySem.W.keepIn K (.ref f__law_on) = true)
    (a__law_ring_on : PySem.W.nsIn K mainGlobals "_law_ring_on" = some (some (.ref f__law_ring_on)))
    (l__law_ring_on : K.lookup f__law_ring_on = some ⟨oc__law_ring_on, od__law_ring_on, .func (PySem.W.fnOf "_law_ring_on" "_law_ring_on" (defArgs s__law_ring_on) (defBody s__law_ring_on) (defScope s__law_ring_on) .none kV__law_ring_on dc__law_ring_on pm__law_ring_on an__law_ring_on cd__law_ring_on ct__law_ring_on), sl__law_ring_on⟩)
    (c__law_ring_on : PySem.W.codeIn K cd__law_ring_on "_law_ring_on" = true)
    (x__law_ring_on : PySem.W.keepIn K (.ref f__law_ring_on) = true)
    (a_ring_on : PySem.W.nsIn K mainGlobals "ring_on" = some (some (.ref f_ring_on)))
    (l_ring_on : K.lookup f_ring_on = some ⟨oc_ring_on, od_ring_on, .func (PySem.W.fnOf "ring_on" "ring_on" (defArgs s_ring_on) (defBody s_ring_on) (defScope s_ring_on) .none kV_ring_on dc_ring_on pm_ring_on an_ring_on cd_ring_on ct_ring_on), sl_ring_on⟩)
    (c_ring_on : PySem.W.codeIn K cd_ring_on "ring_on" = true)
    (x_ring_on : PySem.W.keepIn K (.ref f_ring_on) = true)
    (a__law_ring_leads : PySem.W.nsIn K mainGlobals "_law_ring_leads" = some (some (.ref f__law_ring_leads)))
    (l__law_ring_leads : K.lookup f__law_ring_leads = some ⟨oc__law_ring_leads, od__law_ring_leads, .func (PySem.W.fnOf "_law_ring_leads" "_law_ring_leads" (defArgs s__law_ring_leads) (defBody s__law_ring_leads) (defScope s__law_ring_leads) .none kV__law_ring_leads dc__law_ring_leads pm__law_ring_leads an__law_ring_leads cd__law_ring_leads ct__law_ring_leads), sl__law_ring_leads⟩)
    (c__law_ring_leads : PySem.W.codeIn K cd__law_ring_leads "_law_ring_leads" = true)
    (x__law_ring_leads : PySem.W.keepIn K (.ref f__law_ring_leads) = true)
    (a__law_is_number : PySem.W.nsIn K mainGlobals "_law_is_number" = some (some (.ref f__law_is_number)))
    (l__law_is_number : K.lookup f__law_is_number = some ⟨oc__law_is_number, od__law_is_number, .func (PySem.W.fnOf "_law_is_number" "_law_is_number" (defArgs s__law_is_number) (defBody s__law_is_number) (defScope s__law_is_number) .none kV__law_is_number dc__law_is_number pm__law_is_number an__law_is_number cd__law_is_number ct__law_is_number), sl__law_is_number⟩)
    (c__law_is_number : PySem.W.codeIn K cd__law_is_number "_law_is_number" = true)
    (x__law_is_number : PySem.W.keepIn K (.ref f__law_is_number) = true)
    (a_law : PySem.W.nsIn K mainGlobals "law" = some (some (.ref f_law)))
    (l_law : K.lookup f_law = some ⟨oc_law, od_law, .func (PySem.W.fnOf "law" "law" (defArgs s_law) (defBody s_law) (defScope s_law) .none kV_law dc_law pm_law an_law cd_law ct_law), sl_law⟩)
    (c_law : PySem.W.codeIn K cd_law "law" = true)
    (x_law : PySem.W.keepIn K (.ref f_law) = true) :
    ∃ fd : FuncData, (∀ (s : Shared) (u : Value), BindsTo s fd ⟨[u], []⟩ [("_law_script", u)]) ∧ ∀ base : Heap, K.In base → base.Ns mainGlobals mg → FnOk P w K mg base (L2.CX P w) 10 fa fd ["_law_script"] (spD K φ_law 1) := by
  have e := hfa.symm.trans (PySem.W.mg_of X G a_law)
  cases e
  have T : Txt K mg (⟨C_RowError, C_BadRule, C_BadRow, C_TooWide, C_NoBack, C_BadText⟩ : Cs) :=
    { b_ValueError := PySem.W.mg_none_of X G b_ValueError,
      b_all := PySem.W.mg_none_of X G b_all,
      b_bool := PySem.W.mg_none_of X G b_bool,
      b_dict := PySem.W.mg_none_of X G b_dict,
      b_enumerate := PySem.W.mg_none_of X G b_enumerate,
      b_int := PySem.W.mg_none_of X G b_int,
      b_isinstance := PySem.W.mg_none_of X G b_isinstance,
      b_len := PySem.W.mg_none_of X G b_len,
      b_list := PySem.W.mg_none_of X G b_list,
      b_range := PySem.W.mg_none_of X G b_range,
      b_sorted := PySem.W.mg_none_of X G b_sorted,
      b_tuple := PySem.W.mg_none_of X G b_tuple,
      k_MOST_SIGNS := ⟨_, PySem.W.mg_of X G k_MOST_SIGNS⟩,
      k_MOST_WIDE := ⟨_, PySem.W.mg_of X G k_MOST_WIDE⟩,
      k_MOST_ROWS := ⟨_, PySem.W.mg_of X G k_MOST_ROWS⟩,
      x_RowError := ⟨q_RowError, PySem.W.mg_of X G g_RowError, kp_RowError, sb_RowError, ty_RowError⟩,
      x_BadRule := ⟨q_BadRule, PySem.W.mg_of X G g_BadRule, kp_BadRule, sb_BadRule, ty_BadRule⟩,
      x_BadRow := ⟨q_BadRow, PySem.W.mg_of X G g_BadRow, kp_BadRow, sb_BadRow, ty_BadRow⟩,
      x_TooWide := ⟨q_TooWide, PySem.W.mg_of X G g_TooWide, kp_TooWide, sb_TooWide, ty_TooWide⟩,
      x_NoBack := ⟨q_NoBack, PySem.W.mg_of X G g_NoBack, kp_NoBack, sb_NoBack, ty_NoBack⟩,
      x_BadText := ⟨q_BadText, PySem.W.mg_of X G g_BadText, kp_BadText, sb_BadText, ty_BadText⟩,
      ec_BadRow := ⟨e1_BadRow, e2_BadRow, sb_BadRow, e3_BadRow, e4_BadRow, hn, ht, e5_BadRow⟩,
      ec_NoBack := ⟨e1_NoBack, e2_NoBack, sb_NoBack, e3_NoBack, e4_NoBack, hn, ht, e5_NoBack⟩,
      em_BadRow := exm_sub sb_RowError ic_RowError ty_RowError em_BadRow,
      em_NoBack := exm_sub sb_RowError ic_RowError ty_RowError em_NoBack,
      ki_BadRow_BadRow := kit_self,
      ki_BadRow_BadRule := kit_sub ne_BadRow_BadRule ic_BadRule ty_BadRule ki_BadRow_BadRule,
      ki_BadRow_BadText := kit_sub ne_BadRow_BadText ic_BadText ty_BadText ki_BadRow_BadText,
      ki_BadRow_NoBack := kit_sub ne_BadRow_NoBack ic_NoBack ty_NoBack ki_BadRow_NoBack,
      ki_BadRow_TooWide := kit_sub ne_BadRow_TooWide ic_TooWide ty_TooWide ki_BadRow_TooWide,
      ki_NoBack_BadRow := kit_sub ne_NoBack_BadRow ic_BadRow ty_BadRow ki_NoBack_BadRow,
      ki_NoBack_BadRule := kit_sub ne_NoBack_BadRule ic_BadRule ty_BadRule ki_NoBack_BadRule,
      ki_NoBack_BadText := kit_sub ne_NoBack_BadText ic_BadText ty_BadText ki_NoBack_BadText,
      ki_NoBack_NoBack := kit_self,
      ki_NoBack_TooWide := kit_sub ne_NoBack_TooWide ic_TooWide ty_TooWide ki_NoBack_TooWide,
      kv_BadRow := kit_val kv_BadRow,
      kv_NoBack := kit_val kv_NoBack }
  have F__law_cell_at := fun_mk (st := s__law_cell_at) l__law_cell_at c__law_cell_at x__law_cell_at
  have B__law_cell_at := F__law_cell_at.binds (ps := ["_law_script", "_law_k"]) fun _ _ _ _ _ _ us hl => match us, hl with | [_, _], _ => rfl
  have F__law_mixed := fun_mk (st := s__law_mixed) l__law_mixed c__law_mixed x__law_mixed
  have B__law_mixed := F__law_mixed.binds (ps := ["_law_cell", "_law_k"]) fun _ _ _ _ _ _ us hl => match us, hl with | [_, _], _ => rfl
  have F__law_random := fun_mk (st := s__law_random) l__law_random c__law_random x__law_random
  have B__law_random := F__law_random.binds (ps := ["_law_signs_here", "_law_rows", "_law_more"]) fun _ _ _ _ _ _ us hl => match us, hl with | [_, _, _], _ => rfl
  have F__law_mending := fun_mk (st := s__law_mending) l__law_mending c__law_mending x__law_mending
  have B__law_mending := F__law_mending.binds (ps := ["_law_signs_here", "_law_rows", "_law_more"]) fun _ _ _ _ _ _ us hl => match us, hl with | [_, _, _], _ => rfl
  have F__law_beside := fun_mk (st := s__law_beside) l__law_beside c__law_beside x__law_beside
  have B__law_beside := F__law_beside.binds (ps := ["_law_k", "_law_way"]) fun _ _ _ _ _ _ us hl => match us, hl with | [_, _], _ => rfl
  have F__law_between := fun_mk (st := s__law_between) l__law_between c__law_between x__law_between
  have B__law_between := F__law_between.binds (ps := ["_law_k", "_law_way"]) fun _ _ _ _ _ _ us hl => match us, hl with | [_, _], _ => rfl
  have F__law_turned := fun_mk (st := s__law_turned) l__law_turned c__law_turned x__law_turned
  have B__law_turned := F__law_turned.binds (ps := ["_law_signs_here", "_law_wide", "_law_rows", "_law_more"]) fun _ _ _ _ _ _ us hl => match us, hl with | [_, _, _, _], _ => rfl
  have F__law_rule := fun_mk (st := s__law_rule) l__law_rule c__law_rule x__law_rule
  have B__law_rule := F__law_rule.binds (ps := ["_law_cell", "_law_more"]) fun _ _ _ _ _ _ us hl => match us, hl with | [_, _], _ => rfl
  have F_is_among := fun_mk (st := s_is_among) l_is_among c_is_among x_is_among
  have B_is_among := F_is_among.binds (ps := ["thing", "least", "most"]) fun _ _ _ _ _ _ us hl => match us, hl with | [_, _, _], _ => rfl
  have F_rows_of := fun_mk (st := s_rows_of) l_rows_of c_rows_of x_rows_of
  have B_rows_of := F_rows_of.binds (ps := ["signs", "wide"]) fun _ _ _ _ _ _ us hl => match us, hl with | [_, _], _ => rfl
  have F_is_rule := fun_mk (st := s_is_rule) l_is_rule c_is_rule x_is_rule
  have B_is_rule := F_is_rule.binds (ps := ["thing"]) fun _ _ _ _ _ _ us hl => match us, hl with | [_], _ => rfl
  have F_need_rule := fun_mk (st := s_need_rule) l_need_rule c_need_rule x_need_rule
  have B_need_rule := F_need_rule.binds (ps := ["thing"]) fun _ _ _ _ _ _ us hl => match us, hl with | [_], _ => rfl
  have F_pairs_on := fun_mk (st := s_pairs_on) l_pairs_on c_pairs_on x_pairs_on
  have B_pairs_on := F_pairs_on.binds (ps := ["rule", "pair"]) fun _ _ _ _ _ _ us hl => match us, hl with | [_, _], _ => rfl
  have F_all_pairs := fun_mk (st := s_all_pairs) l_all_pairs c_all_pairs x_all_pairs
  have B_all_pairs := F_all_pairs.binds (ps := ["rule"]) fun _ _ _ _ _ _ us hl => match us, hl with | [_], _ => rfl
  have F_all_steps := fun_mk (st := s_all_steps) l_all_steps c_all_steps x_all_steps
  have B_all_steps := F_all_steps.binds (ps := ["rule"]) fun _ _ _ _ _ _ us hl => match us, hl with | [_], _ => rfl
  have F_parting := fun_mk (st := s_parting) l_parting c_parting x_parting
  have B_parting := F_parting.binds (ps := ["steps"]) fun _ _ _ _ _ _ us hl => match us, hl with | [_], _ => rfl
  have F_is_told := fun_mk (st := s_is_told) l_is_told c_is_told x_is_told
  have B_is_told := F_is_told.binds (ps := ["parts", "ahead", "behind"]) fun _ _ _ _ _ _ us hl => match us, hl with | [_, _, _], _ => rfl
  have F_led_to := fun_mk (st := s_led_to) l_led_to c_led_to x_led_to
  have B_led_to := F_led_to.binds (ps := ["steps", "pairs"]) fun _ _ _ _ _ _ us hl => match us, hl with | [_, _], _ => rfl
  have F_leading_to := fun_mk (st := s_leading_to) l_leading_to c_leading_to x_leading_to
  have B_leading_to := F_leading_to.binds (ps := ["steps", "pairs"]) fun _ _ _ _ _ _ us hl => match us, hl with | [_, _], _ => rfl
  have F_searched_backing := fun_mk (st := s_searched_backing) l_searched_backing c_searched_backing x_searched_backing
  have B_searched_backing := F_searched_backing.binds (ps := ["rule"]) fun _ _ _ _ _ _ us hl => match us, hl with | [_], _ => rfl
  have F_way_back := fun_mk (st := s_way_back) l_way_back c_way_back x_way_back
  have B_way_back := F_way_back.binds (ps := ["came", "pair"]) fun _ _ _ _ _ _ us hl => match us, hl with | [_, _], _ => rfl
  have F_way_from := fun_mk (st := s_way_from) l_way_from c_way_from x_way_from
  have B_way_from := F_way_from.binds (ps := ["steps", "start", "goals"]) fun _ _ _ _ _ _ us hl => match us, hl with | [_, _, _], _ => rfl
  have F_is_shorter := fun_mk (st := s_is_shorter) l_is_shorter c_is_shorter x_is_shorter
  have B_is_shorter := F_is_shorter.binds (ps := ["cells", "best"]) fun _ _ _ _ _ _ us hl => match us, hl with | [_, _], _ => rfl
  have F_rings := fun_mk (st := s_rings) l_rings c_rings x_rings
  have B_rings := F_rings.binds (ps := ["rule"]) fun _ _ _ _ _ _ us hl => match us, hl with | [_], _ => rfl
  have F_bounds := fun_mk (st := s_bounds) l_bounds c_bounds x_bounds
  have B_bounds := F_bounds.binds (ps := ["rule"]) fun _ _ _ _ _ _ us hl => match us, hl with | [_], _ => rfl
  have F__law_odd := fun_mk (st := s__law_odd) l__law_odd c__law_odd x__law_odd
  have B__law_odd := F__law_odd.binds (ps := ["_law_rule_here", "_law_piece_here", "_law_cell"]) fun _ _ _ _ _ _ us hl => match us, hl with | [_, _, _], _ => rfl
  have F__law_piece := fun_mk (st := s__law_piece) l__law_piece c__law_piece x__law_piece
  have B__law_piece := F__law_piece.binds (ps := ["_law_rule_here", "_law_cell", "_law_size"]) fun _ _ _ _ _ _ us hl => match us, hl with | [_, _, _], _ => rfl
  have F__law_ring_by := fun_mk (st := s__law_ring_by) l__law_ring_by c__law_ring_by x__law_ring_by
  have B__law_ring_by := F__law_ring_by.binds (ps := ["_law_script", "_law_rule_here", "_law_k"]) fun _ _ _ _ _ _ us hl => match us, hl with | [_, _, _], _ => rfl
  have F_is_piece := fun_mk (st := s_is_piece) l_is_piece c_is_piece x_is_piece
  have B_is_piece := F_is_piece.binds (ps := ["rule", "thing"]) fun _ _ _ _ _ _ us hl => match us, hl with | [_, _], _ => rfl
  have F_need_piece := fun_mk (st := s_need_piece) l_need_piece c_need_piece x_need_piece
  have B_need_piece := F_need_piece.binds (ps := ["rule", "piece", "least"]) fun _ _ _ _ _ _ us hl => match us, hl with | [_, _, _], _ => rfl
  have F_number_of := fun_mk (st := s_number_of) l_number_of c_number_of x_number_of
  have B_number_of := F_number_of.binds (ps := ["signs", "cells"]) fun _ _ _ _ _ _ us hl => match us, hl with | [_, _], _ => rfl
  have F_told_by := fun_mk (st := s_told_by) l_told_by c_told_by x_told_by
  have B_told_by := F_told_by.binds (ps := ["rule", "cells"]) fun _ _ _ _ _ _ us hl => match us, hl with | [_, _], _ => rfl
  have F_piece_on := fun_mk (st := s_piece_on) l_piece_on c_piece_on x_piece_on
  have B_piece_on := F_piece_on.binds (ps := ["rule", "piece"]) fun _ _ _ _ _ _ us hl => match us, hl with | [_, _], _ => rfl
  have F__law_signs := fun_mk (st := s__law_signs) l__law_signs c__law_signs x__law_signs
  have B__law_signs := F__law_signs.binds (ps := ["_law_found", "_law_due"]) fun _ _ _ _ _ _ us hl => match us, hl with | [_, _], _ => rfl
  have F_need_bounds := fun_mk (st := s_need_bounds) l_need_bounds c_need_bounds x_need_bounds
  have B_need_bounds := F_need_bounds.binds (ps := ["rule"]) fun _ _ _ _ _ _ us hl => match us, hl with | [_], _ => rfl
  have F_steps_of := fun_mk (st := s_steps_of) l_steps_of c_steps_of x_steps_of
  have B_steps_of := F_steps_of.binds (ps := ["rule", "end", "sign"]) fun _ _ _ _ _ _ us hl => match us, hl with | [_, _, _], _ => rfl
  have F_leading_on := fun_mk (st := s_leading_on) l_leading_on c_leading_on x_leading_on
  have B_leading_on := F_leading_on.binds (ps := ["rule", "piece"]) fun _ _ _ _ _ _ us hl => match us, hl with | [_, _], _ => rfl
  have F_cells_of := fun_mk (st := s_cells_of) l_cells_of c_cells_of x_cells_of
  have B_cells_of := F_cells_of.binds (ps := ["signs", "wide", "number"]) fun _ _ _ _ _ _ us hl => match us, hl with | [_, _, _], _ => rfl
  have F_least_origin := fun_mk (st := s_least_origin) l_least_origin c_least_origin x_least_origin
  have B_least_origin := F_least_origin.binds (ps := ["rule", "piece"]) fun _ _ _ _ _ _ us hl => match us, hl with | [_, _], _ => rfl
  have F_told_back := fun_mk (st := s_told_back) l_told_back c_told_back x_told_back
  have B_told_back := F_told_back.binds (ps := ["rule", "piece", "pair"]) fun _ _ _ _ _ _ us hl => match us, hl with | [_, _, _], _ => rfl
  have F_piece_back := fun_mk (st := s_piece_back) l_piece_back c_piece_back x_piece_back
  have B_piece_back := F_piece_back.binds (ps := ["rule", "piece"]) fun _ _ _ _ _ _ us hl => match us, hl with | [_, _], _ => rfl
  have F_around := fun_mk (st := s_around) l_around c_around x_around
  have B_around := F_around.binds (ps := ["ring", "many"]) fun _ _ _ _ _ _ us hl => match us, hl with | [_, _], _ => rfl
  have F_ring_back := fun_mk (st := s_ring_back) l_ring_back c_ring_back x_ring_back
  have B_ring_back := F_ring_back.binds (ps := ["rule", "ring"]) fun _ _ _ _ _ _ us hl => match us, hl with | [_, _], _ => rfl
  have F__law_word := fun_mk (st := s__law_word) l__law_word c__law_word x__law_word
  have B__law_word := F__law_word.binds (ps := ["_law_error"]) fun _ _ _ _ _ _ us hl => match us, hl with | [_], _ => rfl
  have F__law_told := fun_mk (st := s__law_told) l__law_told c__law_told x__law_told
  have B__law_told := F__law_told.binds (ps := ["_law_way", "_law_rule_here", "_law_thing"]) fun _ _ _ _ _ _ us hl => match us, hl with | [_, _, _], _ => rfl
  have F__law_piece_leads := fun_mk (st := s__law_piece_leads) l__law_piece_leads c__law_piece_leads x__law_piece_leads
  have B__law_piece_leads := F__law_piece_leads.binds (ps := ["_law_rule_here", "_law_pair", "_law_piece_here"]) fun _ _ _ _ _ _ us hl => match us, hl with | [_, _, _], _ => rfl
  have F_first_ends := fun_mk (st := s_first_ends) l_first_ends c_first_ends x_first_ends
  have B_first_ends := F_first_ends.binds (ps := ["rule"]) fun _ _ _ _ _ _ us hl => match us, hl with | [_], _ => rfl
  have F_further_ends := fun_mk (st := s_further_ends) l_further_ends c_further_ends x_further_ends
  have B_further_ends := F_further_ends.binds (ps := ["rule", "ends", "sign"]) fun _ _ _ _ _ _ us hl => match us, hl with | [_, _, _], _ => rfl
  have F_searched_ends := fun_mk (st := s_searched_ends) l_searched_ends c_searched_ends x_searched_ends
  have B_searched_ends := F_searched_ends.binds (ps := ["rule"]) fun _ _ _ _ _ _ us hl => match us, hl with | [_], _ => rfl
  have F_missing := fun_mk (st := s_missing) l_missing c_missing x_missing
  have B_missing := F_missing.binds (ps := ["rule"]) fun _ _ _ _ _ _ us hl => match us, hl with | [_], _ => rfl
  have F_like_pairs := fun_mk (st := s_like_pairs) l_like_pairs c_like_pairs x_like_pairs
  have B_like_pairs := F_like_pairs.binds (ps := ["rule"]) fun _ _ _ _ _ _ us hl => match us, hl with | [_], _ => rfl
  have F_twins := fun_mk (st := s_twins) l_twins c_twins x_twins
  have B_twins := F_twins.binds (ps := ["rule"]) fun _ _ _ _ _ _ us hl => match us, hl with | [_], _ => rfl
  have F__law_sign := fun_mk (st := s__law_sign) l__law_sign c__law_sign x__law_sign
  have B__law_sign := F__law_sign.binds (ps := ["_law_rule_here", "_law_cells"]) fun _ _ _ _ _ _ us hl => match us, hl with | [_, _], _ => rfl
  have F__law_on := fun_mk (st := s__law_on) l__law_on c__law_on x__law_on
  have B__law_on := F__law_on.binds (ps := ["_law_rule_here", "_law_cells"]) fun _ _ _ _ _ _ us hl => match us, hl with | [_, _], _ => rfl
  have F__law_ring_on := fun_mk (st := s__law_ring_on) l__law_ring_on c__law_ring_on x__law_ring_on
  have B__law_ring_on := F__law_ring_on.binds (ps := ["_law_rule_here", "_law_ring"]) fun _ _ _ _ _ _ us hl => match us, hl with | [_, _], _ => rfl
  have F_ring_on := fun_mk (st := s_ring_on) l_ring_on c_ring_on x_ring_on
  have B_ring_on := F_ring_on.binds (ps := ["rule", "ring"]) fun _ _ _ _ _ _ us hl => match us, hl with | [_, _], _ => rfl
  have F__law_ring_leads := fun_mk (st := s__law_ring_leads) l__law_ring_leads c__law_ring_leads x__law_ring_leads
  have B__law_ring_leads := F__law_ring_leads.binds (ps := ["_law_rule_here", "_law_ring"]) fun _ _ _ _ _ _ us hl => match us, hl with | [_, _], _ => rfl
  have F__law_is_number := fun_mk (st := s__law_is_number) l__law_is_number c__law_is_number x__law_is_number
  have B__law_is_number := F__law_is_number.binds (ps := ["_law_found"]) fun _ _ _ _ _ _ us hl => match us, hl with | [_], _ => rfl
  have F_law := fun_mk (st := s_law) l_law c_law x_law
  refine ⟨PySem.W.fnOf "law" "law" (defArgs s_law) (defBody s_law) (defScope s_law) .none kV_law dc_law pm_law an_law cd_law ct_law, fun s u => .of_eq rfl, fun base hK hG => ?_⟩
  have g__law_cell_at : GDef P w K mg base "_law_cell_at" 2 φ__law_cell_at 1 := ⟨_, _, _, ok__law_cell_at T F__law_cell_at, PySem.W.mg_of X G a__law_cell_at, x__law_cell_at, B__law_cell_at⟩
  have g__law_mixed : GDef P w K mg base "_law_mixed" 2 φ__law_mixed 1 := ⟨_, _, _, ok__law_mixed T F__law_mixed, PySem.W.mg_of X G a__law_mixed, x__law_mixed, B__law_mixed⟩
  have g__law_random : GDef P w K mg base "_law_random" 3 φ__law_random 2 := ⟨_, _, _, ok__law_random T g__law_mixed F__law_random, PySem.W.mg_of X G a__law_random, x__law_random, B__law_random⟩
  have g__law_mending : GDef P w K mg base "_law_mending" 3 φ__law_mending 2 := ⟨_, _, _, ok__law_mending T g__law_mixed F__law_mending, PySem.W.mg_of X G a__law_mending, x__law_mending, B__law_mending⟩
  have g__law_beside : GDef P w K mg base "_law_beside" 2 φ__law_beside 1 := ⟨_, _, _, ok__law_beside T F__law_beside, PySem.W.mg_of X G a__law_beside, x__law_beside, B__law_beside⟩
  have g__law_between : GDef P w K mg base "_law_between" 2 φ__law_between 1 := ⟨_, _, _, ok__law_between T F__law_between, PySem.W.mg_of X G a__law_between, x__law_between, B__law_between⟩
  have g__law_turned : GDef P w K mg base "_law_turned" 4 φ__law_turned 2 := ⟨_, _, _, ok__law_turned T g__law_beside g__law_between F__law_turned, PySem.W.mg_of X G a__law_turned, x__law_turned, B__law_turned⟩
  have g__law_rule : GDef P w K mg base "_law_rule" 2 φ__law_rule 3 := ⟨_, _, _, ok__law_rule T g__law_random g__law_mending g__law_turned F__law_rule, PySem.W.mg_of X G a__law_rule, x__law_rule, B__law_rule⟩
  have g_is_among : GDef P w K mg base "is_among" 3 φ_is_among 1 := ⟨_, _, _, ok_is_among T F_is_among, PySem.W.mg_of X G a_is_among, x_is_among, B_is_among⟩
  have g_rows_of : GDef P w K mg base "rows_of" 2 φ_rows_of 1 := ⟨_, _, _, ok_rows_of T F_rows_of, PySem.W.mg_of X G a_rows_of, x_rows_of, B_rows_of⟩
  have g_is_rule : GDef P w K mg base "is_rule" 1 φ_is_rule 2 := ⟨_, _, _, ok_is_rule T g_is_among g_rows_of F_is_rule, PySem.W.mg_of X G a_is_rule, x_is_rule, B_is_rule⟩
  have g_need_rule : GDef P w K mg base "need_rule" 1 (φ_need_rule (⟨C_RowError, C_BadRule, C_BadRow, C_TooWide, C_NoBack, C_BadText⟩ : Cs)) 3 := ⟨_, _, _, ok_need_rule T g_is_rule F_need_rule, PySem.W.mg_of X G a_need_rule, x_need_rule, B_need_rule⟩
  have g_pairs_on : GDef P w K mg base "pairs_on" 2 φ_pairs_on 2 := ⟨_, _, _, ok_pairs_on T g_rows_of F_pairs_on, PySem.W.mg_of X G a_pairs_on, x_pairs_on, B_pairs_on⟩
  have g_all_pairs : GDef P w K mg base "all_pairs" 1 φ_all_pairs 2 := ⟨_, _, _, ok_all_pairs T g_rows_of F_all_pairs, PySem.W.mg_of X G a_all_pairs, x_all_pairs, B_all_pairs⟩
  have g_all_steps : GDef P w K mg base "all_steps" 1 φ_all_steps 3 := ⟨_, _, _, ok_all_steps T g_pairs_on g_all_pairs F_all_steps, PySem.W.mg_of X G a_all_steps, x_all_steps, B_all_steps⟩
  have g_parting : GDef P w K mg base "parting" 1 φ_parting 1 := ⟨_, _, _, ok_parting T F_parting, PySem.W.mg_of X G a_parting, x_parting, B_parting⟩
  have g_is_told : GDef P w K mg base "is_told" 3 φ_is_told 1 := ⟨_, _, _, ok_is_told T F_is_told, PySem.W.mg_of X G a_is_told, x_is_told, B_is_told⟩
  have g_led_to : GDef P w K mg base "led_to" 2 φ_led_to 1 := ⟨_, _, _, ok_led_to T F_led_to, PySem.W.mg_of X G a_led_to, x_led_to, B_led_to⟩
  have g_leading_to : GDef P w K mg base "leading_to" 2 φ_leading_to 1 := ⟨_, _, _, ok_leading_to T F_leading_to, PySem.W.mg_of X G a_leading_to, x_leading_to, B_leading_to⟩
  have g_searched_backing : GDef P w K mg base "searched_backing" 1 φ_searched_backing 4 := ⟨_, _, _, ok_searched_backing T g_all_steps g_parting g_is_told g_led_to g_leading_to F_searched_backing, PySem.W.mg_of X G a_searched_backing, x_searched_backing, B_searched_backing⟩
  have g_way_back : GDef P w K mg base "way_back" 2 φ_way_back 1 := ⟨_, _, _, ok_way_back T F_way_back, PySem.W.mg_of X G a_way_back, x_way_back, B_way_back⟩
  have g_way_from : GDef P w K mg base "way_from" 3 φ_way_from 2 := ⟨_, _, _, ok_way_from T g_way_back F_way_from, PySem.W.mg_of X G a_way_from, x_way_from, B_way_from⟩
  have g_is_shorter : GDef P w K mg base "is_shorter" 2 φ_is_shorter 1 := ⟨_, _, _, ok_is_shorter T F_is_shorter, PySem.W.mg_of X G a_is_shorter, x_is_shorter, B_is_shorter⟩
  have g_rings : GDef P w K mg base "rings" 1 φ_rings 4 := ⟨_, _, _, ok_rings T g_need_rule g_all_steps g_all_pairs g_way_from g_is_shorter F_rings, PySem.W.mg_of X G a_rings, x_rings, B_rings⟩
  have g_bounds : GDef P w K mg base "bounds" 1 φ_bounds 5 := ⟨_, _, _, ok_bounds T g_need_rule g_searched_backing g_rings F_bounds, PySem.W.mg_of X G a_bounds, x_bounds, B_bounds⟩
  have g__law_odd : GDef P w K mg base "_law_odd" 3 φ__law_odd 1 := ⟨_, _, _, ok__law_odd T F__law_odd, PySem.W.mg_of X G a__law_odd, x__law_odd, B__law_odd⟩
  have g__law_piece : GDef P w K mg base "_law_piece" 3 φ__law_piece 2 := ⟨_, _, _, ok__law_piece T g__law_mixed F__law_piece, PySem.W.mg_of X G a__law_piece, x__law_piece, B__law_piece⟩
  have g__law_ring_by : GDef P w K mg base "_law_ring_by" 3 φ__law_ring_by 3 := ⟨_, _, _, ok__law_ring_by T g__law_cell_at g__law_piece F__law_ring_by, PySem.W.mg_of X G a__law_ring_by, x__law_ring_by, B__law_ring_by⟩
  have g_is_piece : GDef P w K mg base "is_piece" 2 (φ_is_piece (⟨C_RowError, C_BadRule, C_BadRow, C_TooWide, C_NoBack, C_BadText⟩ : Cs)) 4 := ⟨_, _, _, ok_is_piece T g_need_rule g_is_among F_is_piece, PySem.W.mg_of X G a_is_piece, x_is_piece, B_is_piece⟩
  have g_need_piece : GDef P w K mg base "need_piece" 3 (φ_need_piece (⟨C_RowError, C_BadRule, C_BadRow, C_TooWide, C_NoBack, C_BadText⟩ : Cs)) 5 := ⟨_, _, _, ok_need_piece T g_is_piece F_need_piece, PySem.W.mg_of X G a_need_piece, x_need_piece, B_need_piece⟩
  have g_number_of : GDef P w K mg base "number_of" 2 φ_number_of 1 := ⟨_, _, _, ok_number_of T F_number_of, PySem.W.mg_of X G a_number_of, x_number_of, B_number_of⟩
  have g_told_by : GDef P w K mg base "told_by" 2 φ_told_by 2 := ⟨_, _, _, ok_told_by T g_number_of F_told_by, PySem.W.mg_of X G a_told_by, x_told_by, B_told_by⟩
  have g_piece_on : GDef P w K mg base "piece_on" 2 (φ_piece_on (⟨C_RowError, C_BadRule, C_BadRow, C_TooWide, C_NoBack, C_BadText⟩ : Cs)) 6 := ⟨_, _, _, ok_piece_on T g_need_rule g_need_piece g_told_by F_piece_on, PySem.W.mg_of X G a_piece_on, x_piece_on, B_piece_on⟩
  have g__law_signs : GDef P w K mg base "_law_signs" 2 φ__law_signs 1 := ⟨_, _, _, ok__law_signs T F__law_signs, PySem.W.mg_of X G a__law_signs, x__law_signs, B__law_signs⟩
  have g_need_bounds : GDef P w K mg base "need_bounds" 1 (φ_need_bounds (⟨C_RowError, C_BadRule, C_BadRow, C_TooWide, C_NoBack, C_BadText⟩ : Cs)) 6 := ⟨_, _, _, ok_need_bounds T g_bounds F_need_bounds, PySem.W.mg_of X G a_need_bounds, x_need_bounds, B_need_bounds⟩
  have g_steps_of : GDef P w K mg base "steps_of" 3 φ_steps_of 2 := ⟨_, _, _, ok_steps_of T g_rows_of F_steps_of, PySem.W.mg_of X G a_steps_of, x_steps_of, B_steps_of⟩
  have g_leading_on : GDef P w K mg base "leading_on" 2 φ_leading_on 3 := ⟨_, _, _, ok_leading_on T g_rows_of g_steps_of F_leading_on, PySem.W.mg_of X G a_leading_on, x_leading_on, B_leading_on⟩
  have g_cells_of : GDef P w K mg base "cells_of" 3 φ_cells_of 1 := ⟨_, _, _, ok_cells_of T F_cells_of, PySem.W.mg_of X G a_cells_of, x_cells_of, B_cells_of⟩
  have g_least_origin : GDef P w K mg base "least_origin" 2 φ_least_origin 4 := ⟨_, _, _, ok_least_origin T g_leading_on g_cells_of g_steps_of F_least_origin, PySem.W.mg_of X G a_least_origin, x_least_origin, B_least_origin⟩
  have g_told_back : GDef P w K mg base "told_back" 3 φ_told_back 5 := ⟨_, _, _, ok_told_back T g_least_origin F_told_back, PySem.W.mg_of X G a_told_back, x_told_back, B_told_back⟩
  have g_piece_back : GDef P w K mg base "piece_back" 2 (φ_piece_back (⟨C_RowError, C_BadRule, C_BadRow, C_TooWide, C_NoBack, C_BadText⟩ : Cs)) 7 := ⟨_, _, _, ok_piece_back T g_need_rule g_need_piece g_need_bounds g_told_back F_piece_back, PySem.W.mg_of X G a_piece_back, x_piece_back, B_piece_back⟩
  have g_around : GDef P w K mg base "around" 2 φ_around 1 := ⟨_, _, _, ok_around T F_around, PySem.W.mg_of X G a_around, x_around, B_around⟩
  have g_ring_back : GDef P w K mg base "ring_back" 2 (φ_ring_back (⟨C_RowError, C_BadRule, C_BadRow, C_TooWide, C_NoBack, C_BadText⟩ : Cs)) 7 := ⟨_, _, _, ok_ring_back T g_need_rule g_need_piece g_need_bounds g_told_back g_around F_ring_back, PySem.W.mg_of X G a_ring_back, x_ring_back, B_ring_back⟩
  have g__law_word : GDefE P w K mg base "_law_word" (ψ__law_word (⟨C_RowError, C_BadRule, C_BadRow, C_TooWide, C_NoBack, C_BadText⟩ : Cs)) 1 := ⟨_, _, _, ok__law_word T F__law_word, PySem.W.mg_of X G a__law_word, x__law_word, B__law_word⟩
  have g__law_told : GDef P w K mg base "_law_told" 3 (φ__law_told (⟨C_RowError, C_BadRule, C_BadRow, C_TooWide, C_NoBack, C_BadText⟩ : Cs)) 8 := ⟨_, _, _, ok__law_told T g_piece_back g_ring_back g__law_word F__law_told, PySem.W.mg_of X G a__law_told, x__law_told, B__law_told⟩
  have g__law_piece_leads : GDef P w K mg base "_law_piece_leads" 3 φ__law_piece_leads 9 := ⟨_, _, _, ok__law_piece_leads T g_piece_on g__law_signs g__law_told F__law_piece_leads, PySem.W.mg_of X G a__law_piece_leads, x__law_piece_leads, B__law_piece_leads⟩
  have g_first_ends : GDef P w K mg base "first_ends" 1 φ_first_ends 2 := ⟨_, _, _, ok_first_ends T g_rows_of F_first_ends, PySem.W.mg_of X G a_first_ends, x_first_ends, B_first_ends⟩
  have g_further_ends : GDef P w K mg base "further_ends" 3 φ_further_ends 3 := ⟨_, _, _, ok_further_ends T g_steps_of F_further_ends, PySem.W.mg_of X G a_further_ends, x_further_ends, B_further_ends⟩
  have g_searched_ends : GDef P w K mg base "searched_ends" 1 φ_searched_ends 4 := ⟨_, _, _, ok_searched_ends T g_first_ends g_further_ends F_searched_ends, PySem.W.mg_of X G a_searched_ends, x_searched_ends, B_searched_ends⟩
  have g_missing : GDef P w K mg base "missing" 1 φ_missing 5 := ⟨_, _, _, ok_missing T g_need_rule g_searched_ends F_missing, PySem.W.mg_of X G a_missing, x_missing, B_missing⟩
  have g_like_pairs : GDef P w K mg base "like_pairs" 1 φ_like_pairs 2 := ⟨_, _, _, ok_like_pairs T g_rows_of F_like_pairs, PySem.W.mg_of X G a_like_pairs, x_like_pairs, B_like_pairs⟩
  have g_twins : GDef P w K mg base "twins" 1 φ_twins 4 := ⟨_, _, _, ok_twins T g_need_rule g_like_pairs g_all_steps g_way_from g_is_shorter g_cells_of F_twins, PySem.W.mg_of X G a_twins, x_twins, B_twins⟩
  have g__law_sign : GDef P w K mg base "_law_sign" 2 φ__law_sign 1 := ⟨_, _, _, ok__law_sign T F__law_sign, PySem.W.mg_of X G a__law_sign, x__law_sign, B__law_sign⟩
  have g__law_on : GDef P w K mg base "_law_on" 2 φ__law_on 2 := ⟨_, _, _, ok__law_on T g__law_sign F__law_on, PySem.W.mg_of X G a__law_on, x__law_on, B__law_on⟩
  have g__law_ring_on : GDef P w K mg base "_law_ring_on" 2 φ__law_ring_on 3 := ⟨_, _, _, ok__law_ring_on T g__law_on F__law_ring_on, PySem.W.mg_of X G a__law_ring_on, x__law_ring_on, B__law_ring_on⟩
  have g_ring_on : GDef P w K mg base "ring_on" 2 (φ_ring_on (⟨C_RowError, C_BadRule, C_BadRow, C_TooWide, C_NoBack, C_BadText⟩ : Cs)) 6 := ⟨_, _, _, ok_ring_on T g_need_rule g_need_piece g_told_by g_around F_ring_on, PySem.W.mg_of X G a_ring_on, x_ring_on, B_ring_on⟩
  have g__law_ring_leads : GDef P w K mg base "_law_ring_leads" 2 φ__law_ring_leads 9 := ⟨_, _, _, ok__law_ring_leads T g__law_ring_on g__law_told g__law_signs g_ring_on F__law_ring_leads, PySem.W.mg_of X G a__law_ring_leads, x__law_ring_leads, B__law_ring_leads⟩
  have g__law_is_number : GDef P w K mg base "_law_is_number" 1 φ__law_is_number 1 := ⟨_, _, _, ok__law_is_number T F__law_is_number, PySem.W.mg_of X G a__law_is_number, x__law_is_number, B__law_is_number⟩
  exact ok_law T g__law_cell_at g__law_rule g_bounds g_rings g__law_odd g__law_piece g__law_ring_by g__law_mixed g__law_piece_leads g__law_told g_missing g_twins g__law_ring_leads g__law_is_number F_law
end Br
open PySem PySem.W PyProof.Rows
set_option maxHeartbeats 0 in
theorem PySem.Challenge.cw_backrule_k11_whole_turned_back_holds : PySem.Challenge.rw_backrule_k11_whole_turned_back.Holds := by
  w_on; o_law; k_head; (case hw => w_witness2)
  k_fill
  refine Dt.walk_ofD (l := PySem.Challenge.rw_backrule_k11_whole_turned_back) (n := 63) (k := 10) (x := "_law_script") Br.φ_law rfl (by decide) rfl ⟨rfl, by decide, by decide⟩ (fun w h Y => PySem.W.kIn_of Y) (fun ns _ => .mk ns) ?F
  case F =>
    intro w mg fa h KX G hmg
    refine' Br.all_mk KX G hmg ?b_ValueError ?b_all ?b_bool ?b_dict ?b_enumerate ?b_int ?b_isinstance ?b_len ?b_list ?b_range ?b_sorted ?b_tuple ?k_MOST_SIGNS ?k_MOST_WIDE ?k_MOST_ROWS ?g_RowError ?q_RowError ?kp_RowError ?sb_RowError ?ty_RowError ?g_BadRule ?q_BadRule ?kp_BadRule ?sb_BadRule ?ty_BadRule ?g_BadRow ?q_BadRow ?kp_BadRow ?sb_BadRow ?ty_BadRow ?g_TooWide ?q_TooWide ?kp_TooWide ?sb_TooWide ?ty_TooWide ?g_NoBack ?q_NoBack ?kp_NoBack ?sb_NoBack ?ty_NoBack ?g_BadText ?q_BadText ?kp_BadText ?sb_BadText ?ty_BadText ?ic_RowError ?ic_BadRule ?ic_BadRow ?ic_TooWide ?ic_NoBack ?ic_BadText ?e1_BadRow ?e2_BadRow ?e3_BadRow ?e4_BadRow ?e5_BadRow ?e1_NoBack ?e2_NoBack ?e3_NoBack ?e4_NoBack ?e5_NoBack ?em_BadRow ?em_NoBack ?ki_BadRow_BadRule ?ne_BadRow_BadRule ?ki_BadRow_BadText ?ne_BadRow_BadText ?ki_BadRow_NoBack ?ne_BadRow_NoBack ?ki_BadRow_TooWide ?ne_BadRow_TooWide ?ki_NoBack_BadRow ?ne_NoBack_BadRow ?ki_NoBack_BadRule ?ne_NoBack_BadRule ?ki_NoBack_BadText ?ne_NoBack_BadText ?ki_NoBack_TooWide ?ne_NoBack_TooWide ?kv_BadRow ?kv_NoBack ?hn ?ht ?a__law_cell_at ?l__law_cell_at ?c__law_cell_at ?x__law_cell_at ?a__law_mixed ?l__law_mixed ?c__law_mixed ?x__law_mixed ?a__law_random ?l__law_random ?c__law_random ?x__law_random ?a__law_mending ?l__law_mending ?c__law_mending ?x__law_mending ?a__law_beside ?l__law_beside ?c__law_beside ?x__law_beside ?a__law_between ?l__law_between ?c__law_between ?x__law_between ?a__law_turned ?l__law_turned ?c__law_turned ?x__law_turned ?a__law_rule ?l__law_rule ?c__law_rule ?x__law_rule ?a_is_among ?l_is_among ?c_is_among ?x_is_among ?a_rows_of ?l_rows_of ?c_rows_of ?x_rows_of ?a_is_rule ?l_is_rule ?c_is_rule ?x_is_rule ?a_need_rule ?l_need_rule ?c_need_rule ?x_need_rule ?a_pairs_on ?l_pairs_on ?c_pairs_on ?x_pairs_on ?a_all_pairs ?l_all_pairs ?c_all_pairs ?x_all_pairs ?a_all_steps ?l_all_steps ?c_all_steps ?x_all_steps ?a_parting ?l_parting ?c_parting ?x_parting ?a_is_told ?l_is_told ?c_is_told ?x_is_told ?a_led_to ?l_led_to ?c_led_to ?x_led_to ?a_leading_to ?l_leading_to ?c_leading_to ?x_leading_to ?a_searched_backing ?l_searched_backing ?c_searched_backing ?x_searched_backing ?a_way_back ?l_way_back ?c_way_back ?x_way_back ?a_way_from ?l_way_from ?c_way_from ?x_way_from ?a_is_shorter ?l_is_shorter ?c_is_shorter ?x_is_shorter ?a_rings ?l_rings ?c_rings ?x_rings ?a_bounds ?l_bounds ?c_bounds ?x_bounds ?a__law_odd ?l__law_odd ?c__law_odd ?x__law_odd ?a__law_piece ?l__law_piece ?c__law_piece ?x__law_piece ?a__law_ring_by ?l__law_ring_by ?c__law_ring_by ?x__law_ring_by ?a_is_piece ?l_is_piece ?c_is_piece ?x_is_piece ?a_need_piece ?l_need_piece ?c_need_piece ?x_need_piece ?a_number_of ?l_number_of ?c_number_of ?x_number_of ?a_told_by ?l_told_by ?c_told_by ?x_told_by ?a_piece_on ?l_piece_on ?c_piece_on ?x_piece_on ?a__law_signs ?l__law_signs ?c__law_signs ?x__law_signs ?a_need_bounds ?l_need_bounds ?c_need_bounds ?x_need_bounds ?a_steps_of ?l_steps_of ?c_steps_of ?x_steps_of ?a_leading_on ?l_leading_on ?c_leading_on ?x_leading_on ?a_cells_of ?l_cells_of ?c_cells_of ?x_cells_of ?a_least_origin ?l_least_origin ?c_least_origin ?x_least_origin ?a_told_back ?l_told_back ?c_told_back ?x_told_back ?a_piece_back ?l_piece_back ?c_piece_back ?x_piece_back ?a_around ?l_around ?c_around ?x_around ?a_ring_back ?l_ring_back ?c_ring_back ?x_ring_back ?a__law_word ?l__law_word ?c__law_word ?x__law_word ?a__law_told ?l__law_told ?c__law_told ?x__law_told ?a__law_piece_leads ?l__law_piece_leads ?c__law_piece_leads ?x__law_piece_leads ?a_first_ends ?l_first_ends ?c_first_ends ?x_first_ends ?a_further_ends ?l_further_ends ?c_further_ends ?x_further_ends ?a_searched_ends ?l_searched_ends ?c_searched_ends ?x_searched_ends ?a_missing ?l_missing ?c_missing ?x_missing ?a_like_pairs ?l_like_pairs ?c_like_pairs ?x_like_pairs ?a_twins ?l_twins ?c_twins ?x_twins ?a__law_sign ?l__law_sign ?c__law_sign ?x__law_sign ?a__law_on ?l__law_on ?c__law_on ?x__law_on ?a__law_ring_on ?l__law_ring_on ?c__law_ring_on ?x__law_ring_on ?a_ring_on ?l_ring_on ?c_ring_on ?x_ring_on ?a__law_ring_leads ?l__law_ring_leads ?c__law_ring_leads ?x__law_ring_leads ?a__law_is_number ?l__law_is_number ?c__law_is_number ?x__law_is_number ?a_law ?l_law ?c_law ?x_law
    (case b_ValueError => k_is)
    (case b_all => k_is)
    (case b_bool => k_is)
    (case b_dict => k_is)
    (case b_enumerate => k_is)
    (case b_int => k_is)
    (case b_isinstance => k_is)
    (case b_len => k_is)
    (case b_list => k_is)
    (case b_range => k_is)
    (case b_sorted => k_is)
    (case b_tuple => k_is)
    (case k_MOST_SIGNS => k_is)
    (case k_MOST_WIDE => k_is)
    (case k_MOST_ROWS => k_is)
    (case g_RowError => k_is)
    (case q_RowError => k_exc)
    (case kp_RowError => k_is)
    (case sb_RowError => k_is)
    (case ty_RowError => k_is)
    (case g_BadRule => k_is)
    (case q_BadRule => k_exc)
    (case kp_BadRule => k_is)
    (case sb_BadRule => k_is)
    (case ty_BadRule => k_is)
    (case g_BadRow => k_is)
    (case q_BadRow => k_exc)
    (case kp_BadRow => k_is)
    (case sb_BadRow => k_is)
    (case ty_BadRow => k_is)
    (case g_TooWide => k_is)
    (case q_TooWide => k_exc)
    (case kp_TooWide => k_is)
    (case sb_TooWide => k_is)
    (case ty_TooWide => k_is)
    (case g_NoBack => k_is)
    (case q_NoBack => k_exc)
    (case kp_NoBack => k_is)
    (case sb_NoBack => k_is)
    (case ty_NoBack => k_is)
    (case g_BadText => k_is)
    (case q_BadText => k_exc)
    (case kp_BadText => k_is)
    (case sb_BadText => k_is)
    (case ty_BadText => k_is)
    (case ic_RowError => k_is)
    (case ic_BadRule => k_is)
    (case ic_BadRow => k_is)
    (case ic_TooWide => k_is)
    (case ic_NoBack => k_is)
    (case ic_BadText => k_is)
    (case e1_BadRow => k_is)
    (case e2_BadRow => k_is)
    (case e3_BadRow => k_is)
    (case e4_BadRow => k_is)
    (case e5_BadRow => k_is)
    (case e1_NoBack => k_is)
    (case e2_NoBack => k_is)
    (case e3_NoBack => k_is)
    (case e4_NoBack => k_is)
    (case e5_NoBack => k_is)
    (case em_BadRow => k_is)
    (case em_NoBack => k_is)
    (case ki_BadRow_BadRule => k_is)
    (case ne_BadRow_BadRule => decide)
    (case ki_BadRow_BadText => k_is)
    (case ne_BadRow_BadText => decide)
    (case ki_BadRow_NoBack => k_is)
    (case ne_BadRow_NoBack => decide)
    (case ki_BadRow_TooWide => k_is)
    (case ne_BadRow_TooWide => decide)
    (case ki_NoBack_BadRow => k_is)
    (case ne_NoBack_BadRow => decide)
    (case ki_NoBack_BadRule => k_is)
    (case ne_NoBack_BadRule => decide)
    (case ki_NoBack_BadText => k_is)
    (case ne_NoBack_BadText => decide)
    (case ki_NoBack_TooWide => k_is)
    (case ne_NoBack_TooWide => decide)
    (case kv_BadRow => k_is)
    (case kv_NoBack => k_is)
    (case hn => k_is)
    (case ht => k_is)
    (case a__law_cell_at => k_is)
    (case l__law_cell_at => k_is)
    (case c__law_cell_at => k_is)
    (case x__law_cell_at => k_is)
    (case a__law_mixed => k_is)
    (case l__law_mixed => k_is)
    (case c__law_mixed => k_is)
    (case x__law_mixed => k_is)
    (case a__law_random => k_is)
    (case l__law_random => k_is)
    (case c__law_random => k_is)
    (case x__law_random => k_is)
    (case a__law_mending => k_is)
    (case l__law_mending => k_is)
    (case c__law_mending => k_is)
    (case x__law_mending => k_is)
    (case a__law_beside => k_is)
    (case l__law_beside => k_is)
    (case c__law_beside => k_is)
    (case x__law_beside => k_is)
    (case a__law_between => k_is)
    (case l__law_between => k_is)
    (case c__law_between => k_is)
    (case x__law_between => k_is)
    (case a__law_turned => k_is)
    (case l__law_turned => k_is)
    (case c__law_turned => k_is)
    (case x__law_turned => k_is)
    (case a__law_rule => k_is)
    (case l__law_rule => k_is)
    (case c__law_rule => k_is)
    (case x__law_rule => k_is)
    (case a_is_among => k_is)
    (case l_is_among => k_is)
    (case c_is_among => k_is)
    (case x_is_among => k_is)
    (case a_rows_of => k_is)
    (case l_rows_of => k_is)
    (case c_rows_of => k_is)
    (case x_rows_of => k_is)
    (case a_is_rule => k_is)
    (case l_is_rule => k_is)
    (case c_is_rule => k_is)
    (case x_is_rule => k_is)
    (case a_need_rule => k_is)
    (case l_need_rule => k_is)
    (case c_need_rule => k_is)
    (case x_need_rule => k_is)
    (case a_pairs_on => k_is)
    (case l_pairs_on => k_is)
    (case c_pairs_on => k_is)
    (case x_pairs_on => k_is)
    (case a_all_pairs => k_is)
    (case l_all_pairs => k_is)
    (case c_all_pairs => k_is)
    (case x_all_pairs => k_is)
    (case a_all_steps => k_is)
    (case l_all_steps => k_is)
    (case c_all_steps => k_is)
    (case x_all_steps => k_is)
    (case a_parting => k_is)
    (case l_parting => k_is)
    (case c_parting => k_is)
    (case x_parting => k_is)
    (case a_is_told => k_is)
    (case l_is_told => k_is)
    (case c_is_told => k_is)
    (case x_is_told => k_is)
    (case a_led_to => k_is)
    (case l_led_to => k_is)
    (case c_led_to => k_is)
    (case x_led_to => k_is)
    (case a_leading_to => k_is)
    (case l_leading_to => k_is)
    (case c_leading_to => k_is)
    (case x_leading_to => k_is)
    (case a_searched_backing => k_is)
    (case l_searched_backing => k_is)
    (case c_searched_backing => k_is)
    (case x_searched_backing => k_is)
    (case a_way_back => k_is)
    (case l_way_back => k_is)
    (case c_way_back => k_is)
    (case x_way_back => k_is)
    (case a_way_from => k_is)
    (case l_way_from => k_is)
    (case c_way_from => k_is)
    (case x_way_from => k_is)
    (case a_is_shorter => k_is)
    (case l_is_shorter => k_is)
    (case c_is_shorter => k_is)
    (case x_is_shorter => k_is)
    (case a_rings => k_is)
    (case l_rings => k_is)
    (case c_rings => k_is)
    (case x_rings => k_is)
    (case a_bounds => k_is)
    (case l_bounds => k_is)
    (case c_bounds => k_is)
    (case x_bounds => k_is)
    (case a__law_odd => k_is)
    (case l__law_odd => k_is)
    (case c__law_odd => k_is)
    (case x__law_odd => k_is)
    (case a__law_piece => k_is)
    (case l__law_piece => k_is)
    (case c__law_piece => k_is)
    (case x__law_piece => k_is)
    (case a__law_ring_by => k_is)
    (case l__law_ring_by => k_is)
    (case c__law_ring_by => k_is)
    (case x__law_ring_by => k_is)
    (case a_is_piece => k_is)
    (case l_is_piece => k_is)
    (case c_is_piece => k_is)
    (case x_is_piece => k_is)
    (case a_need_piece => k_is)
    (case l_need_piece => k_is)
    (case c_need_piece => k_is)
    (case x_need_piece => k_is)
    (case a_number_of => k_is)
    (case l_number_of => k_is)
    (case c_number_of => k_is)
    (case x_number_of => k_is)
    (case a_told_by => k_is)
    (case l_told_by => k_is)
    (case c_told_by => k_is)
    (case x_told_by => k_is)
    (case a_piece_on => k_is)
    (case l_piece_on => k_is)
    (case c_piece_on => k_is)
    (case x_piece_on => k_is)
    (case a__law_signs => k_is)
    (case l__law_signs => k_is)
    (case c__law_signs => k_is)
    (case x__law_signs => k_is)
    (case a_need_bounds => k_is)
    (case l_need_bounds => k_is)
    (case c_need_bounds => k_is)
    (case x_need_bounds => k_is)
    (case a_steps_of => k_is)
    (case l_steps_of => k_is)
    (case c_steps_of => k_is)
    (case x_steps_of => k_is)
    (case a_leading_on => k_is)
    (case l_leading_on => k_is)
    (case c_leading_on => k_is)
    (case x_leading_on => k_is)
    (case a_cells_of => k_is)
    (case l_cells_of => k_is)
    (case c_cells_of => k_is)
    (case x_cells_of => k_is)
    (case a_least_origin => k_is)
    (case l_least_origin => k_is)
    (case c_least_origin => k_is)
    (case x_least_origin => k_is)
    (case a_told_back => k_is)
    (case l_told_back => k_is)
    (case c_told_back => k_is)
    (case x_told_back => k_is)
    (case a_piece_back => k_is)
    (case l_piece_back => k_is)
    (case c_piece_back => k_is)
    (case x_piece_back => k_is)
    (case a_around => k_is)
    (case l_around => k_is)
    (case c_around => k_is)
    (case x_around => k_is)
    (case a_ring_back => k_is)
    (case l_ring_back => k_is)
    (case c_ring_back => k_is)
    (case x_ring_back => k_is)
    (case a__law_word => k_is)
    (case l__law_word => k_is)
    (case c__law_word => k_is)
    (case x__law_word => k_is)
    (case a__law_told => k_is)
    (case l__law_told => k_is)
    (case c__law_told => k_is)
    (case x__law_told => k_is)
    (case a__law_piece_leads => k_is)
    (case l__law_piece_leads => k_is)
    (case c__law_piece_leads => k_is)
    (case x__law_piece_leads => k_is)
    (case a_first_ends => k_is)
    (case l_first_ends => k_is)
    (case c_first_ends => k_is)
    (case x_first_ends => k_is)
    (case a_further_ends => k_is)
    (case l_further_ends => k_is)
    (case c_further_ends => k_is)
    (case x_further_ends => k_is)
    (case a_searched_ends => k_is)
    (case l_searched_ends => k_is)
    (case c_searched_ends => k_is)
    (case x_searched_ends => k_is)
    (case a_missing => k_is)
    (case l_missing => k_is)
    (case c_missing => k_is)
    (case x_missing => k_is)
    (case a_like_pairs => k_is)
    (case l_like_pairs => k_is)
    (case c_like_pairs => k_is)
    (case x_like_pairs => k_is)
    (case a_twins => k_is)
    (case l_twins => k_is)
    (case c_twins => k_is)
    (case x_twins => k_is)
    (case a__law_sign => k_is)
    (case l__law_sign => k_is)
    (case c__law_sign => k_is)
    (case x__law_sign => k_is)
    (case a__law_on => k_is)
    (case l__law_on => k_is)
    (case c__law_on => k_is)
    (case x__law_on => k_is)
    (case a__law_ring_on => k_is)
    (case l__law_ring_on => k_is)
    (case c__law_ring_on => k_is)
    (case x__law_ring_on => k_is)
    (case a_ring_on => k_is)
    (case l_ring_on => k_is)
    (case c_ring_on => k_is)
    (case x_ring_on => k_is)
    (case a__law_ring_leads => k_is)
    (case l__law_ring_leads => k_is)
    (case c__law_ring_leads => k_is)
    (case x__law_ring_leads => k_is)
    (case a__law_is_number => k_is)
    (case l__law_is_number => k_is)
    (case c__law_is_number => k_is)
    (case x__law_is_number => k_is)
    (case a_law => k_is)
    (case l_law => k_is)
    (case c_law => k_is)
    (case x_law => k_is)
