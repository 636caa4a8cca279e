import PyProof.Rows.All
import Wide.All
import OpenK.AllK
import Wide.FinOn
import PyProof.ReprRoads
import HandS.ForMost
import HandS.Style
import HandS.Flow
import HandS.IsInst
import HandS.TupAny
import HandS.TupMul
import PyProof.Rows.IntBool
import KE.DataEq
import KE.DataIsa
import KE.DataAny
import HandS.Text
import PyProof.EqKinds
import HandS.DictEq
import PyProof.NeKinds
import KE.SortData
import HandS.More
import HandS.TryOnly
import HandS.Set
import HandS.SetFor
import HandS.TupSets
import HandS.Zip
import KE.GoesEnumKw
import PyProof.MinMaxWalk
import HandS.DictComp
import KE.KUnpackStar
import HandS.Star
import KE.GoesMore
import HandS.Iter
import HandS.Ends
import PyProof.ReprBulk
import PyProof.Rows.StrJoinMade
import PyProof.Rows.StrDigitsNeg
import PyProof.Ascii
import PySem.Challenge.RW_doorbeams_k04_lines_about_walls_and_door
set_option Elab.async false
set_option linter.all false

set_option maxRecDepth 100000
set_option maxHeartbeats 4000000
/-! Pz, part 1: data trees, what in the abstract heap stands for them, the state of a def. -/
namespace Pz
open PySem L2

/-- a plain datum -/
inductive D where
  | non
  | bl (b : Bool)
  | int (i : Int)
  | str (x : Str)
  | lst (xs : List D)
  | tup (xs : List D)
  | dic (ks : List Key) (xs : List D)
  | dit (ks : List (List Key)) (xs : List D)
  | ins (C : Addr) (ns : List Str) (xs : List D)
  | cst (v : V)

mutual
/-- v stands for d in the heap H -/
def Rp (K : PySem.W.Frag) (H : Hp) : D → V → Prop
  | .non, v => v = .non
  | .bl b, v => v = .bl b
  | .int i, v => v = .int i
  | .str x, v => v = .str x
  | .lst xs, v => ∃ a vs, v = .ref a ∧ H a = some (.lst vs) ∧ RpL K H xs vs
  | .tup xs, v => ∃ a vs, v = .ref a ∧ SqT K H a vs ∧ RpL K H xs vs
  | .dic ks xs, v => ∃ a vs, v = .ref a ∧ H a = some (.dK (ks.zip vs)) ∧ ks.length = xs.length ∧ RpL K H xs vs
  | .dit ks xs, v => ∃ a vs, v = .ref a ∧ H a = some (.dT (ks.zip vs)) ∧ ks.length = xs.length ∧ RpL K H xs vs
  | .ins C ns xs, v => ∃ a dx vs, v = .ref a ∧ H a = some (.ins C dx (ns.zip vs)) ∧ ns.length = xs.length ∧ RpL K H xs vs
  | .cst u, v => v = u
def RpL (K : PySem.W.Frag) (H : Hp) : List D → List V → Prop
  | [], vs => vs = []
  | d :: ds, vs => ∃ v r, vs = v :: r ∧ Rp K H d v ∧ RpL K H ds r
end

/-! ### growth -/
theorem same_t {K : PySem.W.Frag} {H H' : Hp} {a : Addr} {xs : List V} (e : Same H H') (h : SqT K H a xs) : SqT K H' a xs := by
  rcases h with (h | ⟨o, h⟩) | h
  · exact .inl (.inl (e _ _ h))
  · exact .inl (.inr ⟨o, e _ _ h⟩)
  · exact .inr h
mutual
theorem Rp.mono {K : PySem.W.Frag} {H H' : Hp} (e : Same H H') : ∀ (d : D) (v : V), Rp K H d v → Rp K H' d v
  | .non, _, h => h
  | .bl _, _, h => h
  | .int _, _, h => h
  | .str _, _, h => h
  | .lst xs, _, ⟨a, vs, h1, h2, h3⟩ => ⟨a, vs, h1, e _ _ h2, RpL.mono e xs vs h3⟩
  | .tup xs, _, ⟨a, vs, h1, h2, h3⟩ => ⟨a, vs, h1, same_t e h2, RpL.mono e xs vs h3⟩
  | .dic _ xs, _, ⟨a, vs, h1, h2, h4, h3⟩ => ⟨a, vs, h1, e _ _ h2, h4, RpL.mono e xs vs h3⟩
  | .dit _ xs, _, ⟨a, vs, h1, h2, h4, h3⟩ => ⟨a, vs, h1, e _ _ h2, h4, RpL.mono e xs vs h3⟩
  | .ins _ _ xs, _, ⟨a, dx, vs, h1, h2, h4, h3⟩ => ⟨a, dx, vs, h1, e _ _ h2, h4, RpL.mono e xs vs h3⟩
  | .cst _, _, h => h
theorem RpL.mono {K : PySem.W.Frag} {H H' : Hp} (e : Same H H') : ∀ (ds : List D) (vs : List V), RpL K H ds vs → RpL K H' ds vs
  | [], _, h => h
  | d :: ds, _, ⟨v, r, h1, h2, h3⟩ => ⟨v, r, h1, Rp.mono e d v h2, RpL.mono e ds r h3⟩
end
theorem RpL.length {K : PySem.W.Frag} {H : Hp} : ∀ {ds : List D} {vs : List V}, RpL K H ds vs → ds.length = vs.length
  | [], _, h => by cases (show _ = [] from h); rfl
  | d :: ds, _, ⟨v, r, h1, h2, h3⟩ => by subst h1; simp [RpL.length h3]
theorem RpL.nil {K : PySem.W.Frag} {H : Hp} : RpL K H [] [] := rfl
theorem RpL.cons {K : PySem.W.Frag} {H : Hp} {d : D} {ds : List D} {v : V} {vs : List V} (h : Rp K H d v) (t : RpL K H ds vs) : RpL K H (d :: ds) (v :: vs) := ⟨v, vs, rfl, h, t⟩
theorem RpL.append {K : PySem.W.Frag} {H : Hp} : ∀ {ds es : List D} {vs ws : List V}, RpL K H ds vs → RpL K H es ws → RpL K H (ds ++ es) (vs ++ ws)
  | [], _, _, _, h, t => by cases (show _ = [] from h); exact t
  | d :: ds, _, _, _, ⟨v, r, h1, h2, h3⟩, t => by subst h1; exact ⟨v, _, rfl, h2, RpL.append h3 t⟩
theorem RpL.get {K : PySem.W.Frag} {H : Hp} : ∀ {ds : List D} {vs : List V} {i : Nat} {d : D}, RpL K H ds vs → ds[i]? = some d → ∃ v, vs[i]? = some v ∧ Rp K H d v
  | [], _, _, _, _, e => by simp at e
  | d :: ds, _, 0, _, ⟨v, r, h1, h2, h3⟩, e => by subst h1; simp at e; subst e; exact ⟨v, rfl, h2⟩
  | d :: ds, _, i + 1, _, ⟨v, r, h1, h2, h3⟩, e => by
    subst h1
    obtain ⟨u, q1, q2⟩ := RpL.get (i := i) h3 (by simpa using e)
    exact ⟨u, by simpa using q1, q2⟩
theorem RpL.getV {K : PySem.W.Frag} {H : Hp} {ds : List D} {vs : List V} {i : Nat} {v : V} (h : RpL K H ds vs) (e : vs[i]? = some v) : ∃ d, ds[i]? = some d ∧ Rp K H d v := by
  have hl := h.length
  have hi : i < ds.length := by rw [hl]; exact (List.getElem?_eq_some_iff.mp e).1
  obtain ⟨u, q1, q2⟩ := h.get (i := i) (d := ds[i]) (by simp [hi])
  rw [e] at q1; cases q1
  exact ⟨_, by simp [hi], q2⟩
theorem RpL.drop {K : PySem.W.Frag} {H : Hp} : ∀ {ds : List D} {vs : List V} (n : Nat), RpL K H ds vs → RpL K H (ds.drop n) (vs.drop n)
  | _, _, 0, h => h
  | [], _, n + 1, h => by cases (show _ = [] from h); exact rfl
  | d :: ds, _, n + 1, ⟨v, r, h1, h2, h3⟩ => by subst h1; exact RpL.drop n h3
theorem RpL.take {K : PySem.W.Frag} {H : Hp} : ∀ {ds : List D} {vs : List V} (n : Nat), RpL K H ds vs → RpL K H (ds.take n) (vs.take n)
  | _, _, 0, h => rfl
  | [], _, n + 1, h => by cases (show _ = [] from h); exact rfl
  | d :: ds, _, n + 1, ⟨v, r, h1, h2, h3⟩ => by subst h1; exact ⟨v, _, rfl, h2, RpL.take n h3⟩
theorem RpL.set {K : PySem.W.Frag} {H : Hp} {d : D} {v : V} (h0 : Rp K H d v) : ∀ {ds : List D} {vs : List V} (n : Nat), RpL K H ds vs → RpL K H (ds.set n d) (vs.set n v)
  | [], _, _, h => by cases (show _ = [] from h); exact rfl
  | _ :: ds, _, 0, ⟨v, r, h1, h2, h3⟩ => by subst h1; exact ⟨_, _, rfl, h0, h3⟩
  | _ :: ds, _, n + 1, ⟨v, r, h1, h2, h3⟩ => by subst h1; exact ⟨_, _, rfl, h2, RpL.set h0 n h3⟩
theorem RpL.reverse {K : PySem.W.Frag} {H : Hp} : ∀ {ds : List D} {vs : List V}, RpL K H ds vs → RpL K H ds.reverse vs.reverse
  | [], _, h => by cases (show _ = [] from h); exact rfl
  | d :: ds, _, ⟨v, r, h1, h2, h3⟩ => by subst h1; rw [List.reverse_cons, List.reverse_cons]; exact (RpL.reverse h3).append (.cons h2 .nil)
theorem RpL.eraseIdx {K : PySem.W.Frag} {H : Hp} : ∀ {ds : List D} {vs : List V} (n : Nat), RpL K H ds vs → RpL K H (ds.eraseIdx n) (vs.eraseIdx n)
  | [], _, _, h => by cases (show _ = [] from h); exact rfl
  | _ :: ds, _, 0, ⟨v, r, h1, h2, h3⟩ => by subst h1; exact h3
  | _ :: ds, _, n + 1, ⟨v, r, h1, h2, h3⟩ => by subst h1; exact ⟨_, _, rfl, h2, RpL.eraseIdx n h3⟩
theorem RpL.dropLast {K : PySem.W.Frag} {H : Hp} {ds : List D} {vs : List V} (h : RpL K H ds vs) : RpL K H ds.dropLast vs.dropLast := by
  rw [List.dropLast_eq_take, List.dropLast_eq_take, h.length]
  exact h.take _
theorem RpL.ints {K : PySem.W.Frag} {H : Hp} : ∀ (ns : List Int), RpL K H (ns.map D.int) (ns.map V.int)
  | [] => rfl
  | n :: ns => ⟨_, _, rfl, rfl, RpL.ints ns⟩
theorem RpL.strs {K : PySem.W.Frag} {H : Hp} : ∀ (ns : List Str), RpL K H (ns.map D.str) (ns.map V.str)
  | [] => rfl
  | n :: ns => ⟨_, _, rfl, rfl, RpL.strs ns⟩
theorem RpL.bls {K : PySem.W.Frag} {H : Hp} : ∀ (ns : List Bool), RpL K H (ns.map D.bl) (ns.map V.bl)
  | [] => rfl
  | n :: ns => ⟨_, _, rfl, rfl, RpL.bls ns⟩
theorem RpL.of_ints {K : PySem.W.Frag} {H : Hp} : ∀ {ns : List Int} {vs : List V}, RpL K H (ns.map D.int) vs → vs = ns.map V.int
  | [], _, h => h
  | n :: ns, _, ⟨v, r, h1, h2, h3⟩ => by subst h1; cases (show v = _ from h2); rw [RpL.of_ints h3]; rfl
theorem RpL.of_strs {K : PySem.W.Frag} {H : Hp} : ∀ {ns : List Str} {vs : List V}, RpL K H (ns.map D.str) vs → vs = ns.map V.str
  | [], _, h => h
  | n :: ns, _, ⟨v, r, h1, h2, h3⟩ => by subst h1; cases (show v = _ from h2); rw [RpL.of_strs h3]; rfl
theorem RpL.of_bls {K : PySem.W.Frag} {H : Hp} : ∀ {ns : List Bool} {vs : List V}, RpL K H (ns.map D.bl) vs → vs = ns.map V.bl
  | [], _, h => h
  | n :: ns, _, ⟨v, r, h1, h2, h3⟩ => by subst h1; cases (show v = _ from h2); rw [RpL.of_bls h3]; rfl

/-- the object itself in H, its items in Hs -/
def Rt (K : PySem.W.Frag) (Hs H : Hp) : D → V → Prop
  | .lst xs, v => ∃ a vs, v = .ref a ∧ H a = some (.lst vs) ∧ RpL K Hs xs vs
  | .dic ks xs, v => ∃ a vs, v = .ref a ∧ H a = some (.dK (ks.zip vs)) ∧ ks.length = xs.length ∧ RpL K Hs xs vs
  | .tup xs, v => Rp K Hs (.tup xs) v
  | .dit ks xs, v => Rp K Hs (.dit ks xs) v
  | .ins C ns xs, v => Rp K Hs (.ins C ns xs) v
  | .non, v => v = .non
  | .bl b, v => v = .bl b
  | .int i, v => v = .int i
  | .str x, v => v = .str x
  | .cst u, v => v = u
theorem Rt.of {K : PySem.W.Frag} {Hs H : Hp} (e : Same Hs H) : ∀ {d : D} {v : V}, Rp K Hs d v → Rt K Hs H d v
  | .non, _, h => h
  | .bl _, _, h => h
  | .int _, _, h => h
  | .str _, _, h => h
  | .lst xs, _, ⟨a, vs, h1, h2, h3⟩ => ⟨a, vs, h1, e _ _ h2, h3⟩
  | .tup xs, _, h => h
  | .dic _ xs, _, ⟨a, vs, h1, h2, h4, h3⟩ => ⟨a, vs, h1, e _ _ h2, h4, h3⟩
  | .dit _ xs, _, h => h
  | .ins _ _ xs, _, h => h
  | .cst _, _, h => h
theorem Rt.rp {K : PySem.W.Frag} {Hs H : Hp} (e : Same Hs H) : ∀ {d : D} {v : V}, Rt K Hs H d v → Rp K H d v
  | .non, _, h => h
  | .bl _, _, h => h
  | .int _, _, h => h
  | .str _, _, h => h
  | .lst xs, _, ⟨a, vs, h1, h2, h3⟩ => ⟨a, vs, h1, h2, RpL.mono e _ _ h3⟩
  | .tup xs, _, h => Rp.mono e _ _ h
  | .dic _ xs, _, ⟨a, vs, h1, h2, h4, h3⟩ => ⟨a, vs, h1, h2, h4, RpL.mono e _ _ h3⟩
  | .dit _ xs, _, h => Rp.mono e _ _ h
  | .ins _ _ xs, _, h => Rp.mono e _ _ h
  | .cst _, _, h => h
def RtL (K : PySem.W.Frag) (Hs H : Hp) : List D → List V → Prop
  | [], vs => vs = []
  | d :: ds, vs => ∃ v r, vs = v :: r ∧ Rt K Hs H d v ∧ RtL K Hs H ds r

/-- the interpreter's table of modules is known and stays -/
def Sys (H : Hp) : Prop := ∃ o φ, H sysModules = some (.frz o (.ext φ))
theorem Sys.mono {H H' : Hp} (e : Same H H') (h : Sys H) : Sys H' := let ⟨o, φ, q⟩ := h; ⟨o, φ, e _ _ q⟩

/-! ### the state of a def -/
structure Pm where
  K : PySem.W.Frag
  dk : Option (Addr × Addr)
  Hs0 : Hp
  H0 : Hp
def inDk (dk : Option (Addr × Addr)) (b : Addr) : Prop := match dk with
  | none => False
  | some (p, c) => b = p ∨ b = c
/-- the deck as it stands: k draws so far -/
def Dk (dk : Option (Addr × Addr)) (Hs H : Hp) (k : Nat) : Prop := match dk with
  | none => True
  | some (p, c) => p ≠ c ∧ Hs p = none ∧ Hs c = none ∧ ∃ (m : Int) (ns : List Int), H p = some (.lst [.ref c, .int m, .int k]) ∧ H c = some (.lst (ns.map V.int)) ∧ ns.length ≤ 63
theorem Dk.there {dk : Option (Addr × Addr)} {Hs H : Hp} {k : Nat} (h : Dk dk Hs H k) {b : Addr} (hb : inDk dk b) : ∃ o, H b = some o := by
  cases dk with
  | none => exact hb.elim
  | some pc =>
    obtain ⟨p, c⟩ := pc
    obtain ⟨_, _, _, m, ns, h1, h2, _⟩ := h
    rcases hb with rfl | rfl
    · exact ⟨_, h1⟩
    · exact ⟨_, h2⟩
theorem Dk.nos {dk : Option (Addr × Addr)} {Hs H : Hp} {k : Nat} (h : Dk dk Hs H k) {b : Addr} (hb : inDk dk b) : Hs b = none := by
  cases dk with
  | none => exact hb.elim
  | some pc =>
    obtain ⟨p, c⟩ := pc
    obtain ⟨_, h1, h2, _⟩ := h
    rcases hb with rfl | rfl
    · exact h1
    · exact h2
theorem Dk.to {dk : Option (Addr × Addr)} {Hs Hs' H H' : Hp} {k : Nat} (h : Dk dk Hs H k) (h1 : ∀ b, inDk dk b → Hs' b = none) (h2 : ∀ b, inDk dk b → H' b = H b) : Dk dk Hs' H' k := by
  cases dk with
  | none => trivial
  | some pc =>
    obtain ⟨p, c⟩ := pc
    obtain ⟨n, _, _, m, ns, e1, e2, l⟩ := h
    exact ⟨n, h1 p (.inl rfl), h1 c (.inr rfl), m, ns, by rw [h2 p (.inl rfl)]; exact e1, by rw [h2 c (.inr rfl)]; exact e2, l⟩

/-- what a slot holds: a datum; a list, a dict of the def's own that nobody else knows -/
inductive B where
  | d (x : D)
  | l (xs : List D)
  | m (ks : List Key) (xs : List D)
def B.own : B → Bool
  | .d _ => false
  | _ => true
def B.dat : B → D
  | .d x => x
  | .l xs => .lst xs
  | .m ks xs => .dic ks xs
structure S where
  v : List (Option B)
  k : Nat
def Own (P : Pm) (Hs H : Hp) : B → V → Prop
  | .d x, v => Rp P.K Hs x v
  | .l xs, v => ∃ a vs, v = .ref a ∧ Hs a = none ∧ P.H0 a = none ∧ H a = some (.lst vs) ∧ RpL P.K Hs xs vs
  | .m ks xs, v => ∃ a vs, v = .ref a ∧ Hs a = none ∧ P.H0 a = none ∧ H a = some (.dK (ks.zip vs)) ∧ ks.length = xs.length ∧ RpL P.K Hs xs vs
/-- the slots and the heap bear the state; Hs is what stays as it is -/
structure ER (P : Pm) (Hs H : Hp) (σ : St) (ρ : S) : Prop where
  sub : Same Hs H
  grow : Same P.Hs0 Hs
  keep : ∀ b o, P.H0 b = some o → ¬ inDk P.dk b → H b = some o
  old : ∀ b, P.H0 b ≠ none → P.Hs0 b = none → Hs b = none
  dk : Dk P.dk Hs H ρ.k
  dkin : ∀ b, inDk P.dk b → P.H0 b ≠ none
  len : σ.length = ρ.v.length
  slot : ∀ (i : Nat) (x : B), ρ.v[i]? = some (some x) → ∃ v, σ[i]? = some (some v) ∧ Own P Hs H x v
  apart : ∀ (i j : Nat) (x y : B) (v : V), i ≠ j → ρ.v[i]? = some (some x) → x.own = true → ρ.v[j]? = some (some y) → y.own = true → σ[i]? = some (some v) → σ[j]? ≠ some (some v)
  sys : Sys P.Hs0
theorem ER.sysH {P : Pm} {Hs H : Hp} {σ : St} {ρ : S} (E : ER P Hs H σ ρ) : Sys H := Sys.mono (E.grow.trans E.sub) E.sys

/-- what an expression gives: a datum, a new list or dict, or what a slot holds -/
inductive Res where
  | d (x : D)
  | l (xs : List D)
  | m (ks : List Key) (xs : List D)
  | p (i : Nat)
def Fresh (σ : St) (ρ : S) (v : V) : Prop := ∀ (i : Nat) (x : B), ρ.v[i]? = some (some x) → x.own = true → σ[i]? ≠ some (some v)
def RR (P : Pm) (Hs H : Hp) (σ : St) (ρ : S) (v : V) : Res → Prop
  | .d x => Rp P.K Hs x v
  | .l xs => Own P Hs H (.l xs) v ∧ Fresh σ ρ v
  | .m ks xs => Own P Hs H (.m ks xs) v ∧ Fresh σ ρ v
  | .p i => σ[i]? = some (some v) ∧ ∃ x, ρ.v[i]? = some (some x) ∧ x.own = true

/-- an operand: a datum that stays, or a slot's -/
inductive O where
  | d (x : D)
  | p (i : Nat)
def Res.fz : Res → O
  | .d x => .d x
  | .l xs => .d (.lst xs)
  | .m ks xs => .d (.dic ks xs)
  | .p i => .p i
def O.look (ρ : S) : O → Option D
  | .d x => some x
  | .p i => match ρ.v[i]? with
    | some (some x) => some x.dat
    | _ => none
def RO (P : Pm) (Hs : Hp) (σ : St) (v : V) : O → Prop
  | .d x => Rp P.K Hs x v
  | .p i => σ[i]? = some (some v)
theorem RO.mono {P : Pm} {Hs Hs' : Hp} {σ : St} {v : V} {o : O} (e : Same Hs Hs') (h : RO P Hs σ v o) : RO P Hs' σ v o := by
  cases o with
  | d x => exact Rp.mono e _ _ h
  | p i => exact h
theorem Own.rt {P : Pm} {Hs H : Hp} {x : B} {v : V} (e : Same Hs H) (h : Own P Hs H x v) : Rt P.K Hs H x.dat v := by
  cases x with
  | d x => exact Rt.of e h
  | l xs => obtain ⟨a, vs, h1, _, _, h2, h3⟩ := h; exact ⟨a, vs, h1, h2, h3⟩
  | m ks xs => obtain ⟨a, vs, h1, _, _, h2, h4, h3⟩ := h; exact ⟨a, vs, h1, h2, h4, h3⟩
theorem RO.rt {P : Pm} {Hs H : Hp} {σ : St} {ρ : S} {v : V} {o : O} {x : D} (E : ER P Hs H σ ρ) (h : RO P Hs σ v o) (e : o.look ρ = some x) : Rt P.K Hs H x v := by
  cases o with
  | d y => cases e; exact Rt.of E.sub h
  | p i =>
    simp only [O.look] at e
    split at e
    · rename_i b hb
      cases e
      obtain ⟨u, h1, h2⟩ := E.slot i b hb
      have h : σ[i]? = some (some v) := h
      rw [h] at h1; cases h1
      exact h2.rt E.sub
    · cases e

section
variable {P : Pm} {Hs Hs' H H' : Hp} {σ : St} {ρ : S} {v : V} {r : Res}
theorem Same.upd {H : Hp} {a : Addr} {o : HO} (h : H a = none) : Same H (upd H a o) := fun b u e => by
  rw [upd_ne (ne_of_none e h)]
  exact e
theorem Own.grow {b : B} (e : Same Hs Hs') (hn : ∀ a, v = .ref a → b.own = true → Hs' a = none) (h : Own P Hs H b v) : Own P Hs' H b v := by
  cases b with
  | d x => exact Rp.mono e _ _ h
  | l xs => obtain ⟨a, vs, h1, h2, h3, h4, h5⟩ := h; exact ⟨a, vs, h1, hn a h1 rfl, h3, h4, RpL.mono e _ _ h5⟩
  | m ks xs => obtain ⟨a, vs, h1, h2, h3, h4, h6, h5⟩ := h; exact ⟨a, vs, h1, hn a h1 rfl, h3, h4, h6, RpL.mono e _ _ h5⟩
/-- one more object stays as it is -/
theorem ER.add {a : Addr} {o : HO} (E : ER P Hs H σ ρ) (hs : Hs a = none) (h0 : P.H0 a = none) (h : H a = some o) (hf : Fresh σ ρ (.ref a)) : ER P (upd Hs a o) H σ ρ where
  sub := fun b u e => by
    by_cases z : b = a
    · subst z; rw [upd_same] at e; cases e; exact h
    · rw [upd_ne z] at e; exact E.sub b u e
  grow := fun b u e => by rw [upd_ne (ne_of_none (E.grow b u e) hs)]; exact E.grow b u e
  keep := E.keep
  old := fun b h1 h2 => by
    have z : b ≠ a := fun z => h1 (z ▸ h0)
    rw [upd_ne z]; exact E.old b h1 h2
  dk := E.dk.to (fun b hb => by
    have z : b ≠ a := fun z => E.dkin b hb (z ▸ h0)
    rw [upd_ne z]; exact E.dk.nos hb) fun _ _ => rfl
  dkin := E.dkin
  len := E.len
  slot := fun i x e => by
    obtain ⟨v, h1, h2⟩ := E.slot i x e
    refine ⟨v, h1, h2.grow (Same.upd hs) fun b hb hx => ?_⟩
    subst hb
    have z : b ≠ a := fun z => hf i x e hx (z ▸ h1)
    rw [upd_ne z]
    cases x with
    | d x => cases hx
    | l xs => obtain ⟨_, _, q, q2, _⟩ := h2; cases q; exact q2
    | m ks xs => obtain ⟨_, _, q, q2, _⟩ := h2; cases q; exact q2
  apart := E.apart
  sys := E.sys
theorem Own.ref {b : B} (h : Own P Hs H b v) (hb : b.own = true) : ∃ a o, v = .ref a ∧ Hs a = none ∧ P.H0 a = none ∧ H a = some o := by
  cases b with
  | d x => cases hb
  | l xs => obtain ⟨a, vs, h1, h2, h3, h4, _⟩ := h; exact ⟨a, _, h1, h2, h3, h4⟩
  | m ks xs => obtain ⟨a, vs, h1, h2, h3, h4, _⟩ := h; exact ⟨a, _, h1, h2, h3, h4⟩
/-- an own object becomes a datum -/
theorem Own.freeze {b : B} (E : ER P Hs H σ ρ) (h : Own P Hs H b v) (hb : b.own = true) (hf : Fresh σ ρ v) : ∃ Hs', Same Hs Hs' ∧ ER P Hs' H σ ρ ∧ Rp P.K Hs' b.dat v := by
  cases b with
  | d x => cases hb
  | l xs =>
    obtain ⟨a, vs, rfl, h2, h3, h4, h5⟩ := h
    exact ⟨_, Same.upd h2, E.add h2 h3 h4 hf, a, vs, rfl, upd_same, RpL.mono (Same.upd h2) _ _ h5⟩
  | m ks xs =>
    obtain ⟨a, vs, rfl, h2, h3, h4, h6, h5⟩ := h
    exact ⟨_, Same.upd h2, E.add h2 h3 h4 hf, a, vs, rfl, upd_same, h6, RpL.mono (Same.upd h2) _ _ h5⟩
/-- a result becomes an operand -/
theorem RR.fz (E : ER P Hs H σ ρ) (h : RR P Hs H σ ρ v r) : ∃ Hs', Same Hs Hs' ∧ ER P Hs' H σ ρ ∧ RO P Hs' σ v r.fz := by
  cases r with
  | d x => exact ⟨Hs, Same.refl _, E, h⟩
  | l xs => exact Own.freeze (b := .l xs) E h.1 rfl h.2
  | m ks xs => exact Own.freeze (b := .m ks xs) E h.1 rfl h.2
  | p i => exact ⟨Hs, Same.refl _, E, h.1⟩
/-- a slot's own object becomes a datum -/
def S.fz (ρ : S) (i : Nat) : S := match ρ.v[i]? with
  | some (some x) => { ρ with v := ρ.v.set i (some (.d x.dat)) }
  | _ => ρ
theorem S.fz_k (i : Nat) : (ρ.fz i).k = ρ.k := by unfold S.fz; split <;> rfl
/-- forgetting that a slot's object is the def's own -/
theorem ER.slotD {i : Nat} {b : B} {o : HO} {a : Addr} (E : ER P Hs H σ ρ) (hi : ρ.v[i]? = some (some b)) (hb : b.own = true) (hv : σ[i]? = some (some v)) :
    ∃ Hs', Same Hs Hs' ∧ ER P Hs' H σ { ρ with v := ρ.v.set i (some (.d b.dat)) } ∧ Rp P.K Hs' b.dat v := by
  have hil : i < ρ.v.length := (List.getElem?_eq_some_iff.mp hi).1
  obtain ⟨u, h1, h2⟩ := E.slot i b hi
  rw [hv] at h1; cases h1
  -- the state without the slot
  have E1 : ER P Hs H σ { ρ with v := ρ.v.set i none } := by
    refine ⟨E.sub, E.grow, E.keep, E.old, E.dk, E.dkin, by simpa using E.len, fun j x e => ?_, fun j k x y u n e1 o1 e2 o2 => ?_, E.sys⟩
    · by_cases z : j = i
      · subst z; simp [hil] at e
      · exact E.slot j x (by simpa [List.getElem?_set_ne (Ne.symm z)] using e)
    · have f : ∀ {j : Nat} {x : B}, (ρ.v.set i none)[j]? = some (some x) → ρ.v[j]? = some (some x) := fun {j x} e => by
        by_cases z : j = i
        · subst z; simp [hil] at e
        · simpa [List.getElem?_set_ne (Ne.symm z)] using e
      exact E.apart j k x y u n (f e1) o1 (f e2) o2
  have hf : Fresh σ { ρ with v := ρ.v.set i none } v := fun j x e hx hj => by
    by_cases z : j = i
    · subst z; simp [hil] at e
    · have e' : ρ.v[j]? = some (some x) := by simpa [List.getElem?_set_ne (Ne.symm z)] using e
      exact E.apart i j b x v (Ne.symm z) hi hb e' hx hv hj
  obtain ⟨Hs', g, E2, q⟩ := Own.freeze E1 h2 hb hf
  refine ⟨Hs', g, ⟨E2.sub, E2.grow, E2.keep, E2.old, E2.dk, E2.dkin, by simpa using E.len, fun j x e => ?_, fun j k x y u n e1 o1 e2 o2 => ?_, E.sys⟩, q⟩
  · by_cases z : j = i
    · subst z
      simp [hil] at e
      subst e
      exact ⟨v, hv, q⟩
    · exact E2.slot j x (by simpa [List.getElem?_set_ne (Ne.symm z)] using e)
  · have f : ∀ {j : Nat} {x : B}, x.own = true → (ρ.v.set i (some (.d b.dat)))[j]? = some (some x) → ρ.v[j]? = some (some x) := fun {j x} ox e => by
      by_cases z : j = i
      · subst z; simp [hil] at e; subst e; cases ox
      · simpa [List.getElem?_set_ne (Ne.symm z)] using e
    exact E.apart j k x y u n (f o1 e1) o1 (f o2 e2) o2
end
end Pz

set_option maxRecDepth 100000
set_option maxHeartbeats 4000000
/-! Pz, part 2: how the state goes on; judgements. -/
namespace Pz
open PySem L2

/-- what an operation gives: something known, or a new object -/
inductive NR (K : PySem.W.Frag) (Hs H : Hp) : V → Res → Hp → Prop
  | old {z : V} {x : D} : Rp K Hs x z → NR K Hs H z (.d x) H
  | nl {p : Addr} {vs : List V} {ds : List D} : H p = none → RpL K Hs ds vs → NR K Hs H (.ref p) (.l ds) (upd H p (.lst vs))
  | nt {p : Addr} {vs : List V} {ds : List D} : H p = none → RpL K Hs ds vs → NR K Hs H (.ref p) (.d (.tup ds)) (upd H p (.tup vs))
  | nm {p : Addr} {vs : List V} {ks : List Key} {ds : List D} : H p = none → ks.length = ds.length → RpL K Hs ds vs → NR K Hs H (.ref p) (.m ks ds) (upd H p (.dK (ks.zip vs)))

def S.set (ρ : S) (i : Nat) (b : B) : S := { ρ with v := ρ.v.set i (some b) }
def S.un (ρ : S) (i : Nat) : S := { ρ with v := ρ.v.set i none }
theorem S.set_get {ρ : S} {i j : Nat} {b x : B} (e : (ρ.set i b).v[j]? = some (some x)) : (j = i ∧ x = b) ∨ (j ≠ i ∧ ρ.v[j]? = some (some x)) := by
  by_cases z : j = i
  · subst z
    by_cases hl : j < ρ.v.length
    · simp [S.set, hl] at e; exact .inl ⟨rfl, e.symm⟩
    · have q : (ρ.v.set j (some b))[j]? = some (some x) := e
      rw [List.getElem?_eq_none (by simpa using Nat.le_of_not_lt hl)] at q; cases q
  · exact .inr ⟨z, by simpa [S.set, List.getElem?_set_ne (Ne.symm z)] using e⟩
theorem S.un_get {ρ : S} {i j : Nat} {x : B} (e : (ρ.un i).v[j]? = some (some x)) : j ≠ i ∧ ρ.v[j]? = some (some x) := by
  by_cases z : j = i
  · subst z
    by_cases hl : j < ρ.v.length
    · simp [S.un, hl] at e
    · have q : (ρ.v.set j none)[j]? = some (some x) := e
      rw [List.getElem?_eq_none (by simpa using Nat.le_of_not_lt hl)] at q; cases q
  · exact ⟨z, by simpa [S.un, List.getElem?_set_ne (Ne.symm z)] using e⟩
theorem S.fz_of {ρ : S} {i : Nat} {b : B} (h : ρ.v[i]? = some (some b)) : ρ.fz i = ρ.set i (.d b.dat) := by
  unfold S.fz S.set
  rw [h]
theorem S.fz_no {ρ : S} {i : Nat} (h : ∀ b, ρ.v[i]? ≠ some (some b)) : ρ.fz i = ρ := by
  unfold S.fz
  split
  · rename_i x e; exact absurd e (h x)
  · rfl

section
variable {P : Pm} {Hs Hs' H H' : Hp} {σ : St} {ρ : S} {v : V} {r : Res}
/-- a new object -/
theorem ER.new {p : Addr} {o : HO} (E : ER P Hs H σ ρ) (hp : H p = none) : ER P Hs (upd H p o) σ ρ ∧ Hs p = none ∧ P.H0 p = none ∧ Fresh σ ρ (.ref p) := by
  have hs : Hs p = none := Same.free E.sub hp
  have h0 : P.H0 p = none := by
    cases q : P.H0 p with
    | none => rfl
    | some u =>
      by_cases z : inDk P.dk p
      · obtain ⟨o, e⟩ := E.dk.there z; rw [hp] at e; cases e
      · have := E.keep p u q z; rw [hp] at this; cases this
  have hd : ∀ b, inDk P.dk b → b ≠ p := fun b hb z => E.dkin b hb (z ▸ h0)
  refine ⟨⟨fun b u e => ?_, E.grow, fun b u e n => ?_, E.old, E.dk.to (fun b hb => E.dk.nos hb) fun b hb => upd_ne (hd b hb), E.dkin, E.len, fun i x e => ?_, E.apart, E.sys⟩, hs, h0, fun i x e hx hi => ?_⟩
  · have := E.sub b u e
    rw [upd_ne (ne_of_none this hp)]; exact this
  · have := E.keep b u e n
    rw [upd_ne (ne_of_none this hp)]; exact this
  · obtain ⟨v, h1, h2⟩ := E.slot i x e
    refine ⟨v, h1, ?_⟩
    cases x with
    | d x => exact h2
    | l xs => obtain ⟨a, vs, q1, q2, q3, q4, q5⟩ := h2; exact ⟨a, vs, q1, q2, q3, by rw [upd_ne (ne_of_none q4 hp)]; exact q4, q5⟩
    | m ks xs => obtain ⟨a, vs, q1, q2, q3, q4, q6, q5⟩ := h2; exact ⟨a, vs, q1, q2, q3, by rw [upd_ne (ne_of_none q4 hp)]; exact q4, q6, q5⟩
  · obtain ⟨v, h1, h2⟩ := E.slot i x e
    rw [hi] at h1; cases h1
    obtain ⟨a, o', q1, _, _, q2⟩ := h2.ref hx
    cases q1
    rw [hp] at q2; cases q2
theorem NR.er {res : Res} (E : ER P Hs H σ ρ) (h : NR P.K Hs H v res H') : ∃ Hs', Same Hs Hs' ∧ ER P Hs' H' σ ρ ∧ RR P Hs' H' σ ρ v res := by
  cases h with
  | old h => exact ⟨Hs, Same.refl _, E, h⟩
  | nl hp hr =>
    obtain ⟨E1, hs, h0, hf⟩ := E.new (o := .lst _) hp
    exact ⟨Hs, Same.refl _, E1, ⟨_, _, rfl, hs, h0, upd_same, hr⟩, hf⟩
  | nt hp hr =>
    obtain ⟨E1, hs, h0, hf⟩ := E.new (o := .tup _) hp
    exact ⟨_, Same.upd hs, E1.add hs h0 upd_same hf, _, _, rfl, SqT.of upd_same, RpL.mono (Same.upd hs) _ _ hr⟩
  | nm hp hl hr =>
    obtain ⟨E1, hs, h0, hf⟩ := E.new (o := .dK _) hp
    exact ⟨Hs, Same.refl _, E1, ⟨_, _, rfl, hs, h0, upd_same, hl, hr⟩, hf⟩

/-- the slot's object becomes a datum, or nothing was to be done -/
theorem ER.fz {i : Nat} (E : ER P Hs H σ ρ) (hv : σ[i]? = some (some v)) {x : D} (hx : O.look ρ (.p i) = some x) : ∃ Hs', Same Hs Hs' ∧ ER P Hs' H σ (ρ.fz i) ∧ Rp P.K Hs' x v := by
  simp only [O.look] at hx
  split at hx
  · rename_i b hb
    cases hx
    rw [S.fz_of hb]
    cases ho : b.own with
    | true => exact E.slotD (o := .tbl #[]) (a := 0) hb ho hv
    | false =>
      cases b with
      | d x =>
        obtain ⟨u, h1, h2⟩ := E.slot i _ hb
        rw [hv] at h1; cases h1
        have e : ρ.set i (.d (B.d x).dat) = ρ := by
          unfold S.set
          have : ρ.v.set i (some (B.d x)) = ρ.v := by
            refine List.ext_getElem? fun j => ?_
            by_cases z : i = j
            · subst z; rw [List.getElem?_set_self (List.getElem?_eq_some_iff.mp hb).1, hb]
            · rw [List.getElem?_set_ne z]
          show ({ ρ with v := ρ.v.set i (some (B.d x)) } : S) = ρ
          rw [this]
        rw [e]
        exact ⟨Hs, Same.refl _, E, h2⟩
      | l _ => cases ho
      | m _ _ => cases ho
  · cases hx
/-- an operand that is to stay -/
def O.fz (ρ : S) : O → S
  | .d _ => ρ
  | .p i => ρ.fz i
theorem O.er {o : O} {x : D} (E : ER P Hs H σ ρ) (h : RO P Hs σ v o) (e : o.look ρ = some x) : ∃ Hs', Same Hs Hs' ∧ ER P Hs' H σ (o.fz ρ) ∧ Rp P.K Hs' x v := by
  cases o with
  | d y => cases e; exact ⟨Hs, Same.refl _, E, h⟩
  | p i => exact E.fz h e

/-- a slot is stored -/
theorem ER.set {i : Nat} {b : B} (E : ER P Hs H σ ρ) (hi : i < ρ.v.length) (h : Own P Hs H b v) (hf : b.own = true → Fresh σ (ρ.un i) v) : ER P Hs H (σ.set i (some v)) (ρ.set i b) where
  sub := E.sub
  grow := E.grow
  keep := E.keep
  old := E.old
  dk := E.dk
  dkin := E.dkin
  len := by simpa [S.set] using E.len
  slot := fun j x e => by
    rcases S.set_get e with ⟨rfl, rfl⟩ | ⟨n, e⟩
    · exact ⟨v, by rw [List.getElem?_set_self (by rw [E.len]; exact hi)], h⟩
    · rw [List.getElem?_set_ne (Ne.symm n)]; exact E.slot j x e
  apart := fun j k x y u n e1 o1 e2 o2 => by
    have back : ∀ {j : Nat} {x : B}, j ≠ i → ρ.v[j]? = some (some x) → (ρ.un i).v[j]? = some (some x) := fun {j x} n e => by simpa [S.un, List.getElem?_set_ne (Ne.symm n)] using e
    rcases S.set_get e1 with ⟨z1, rfl⟩ | ⟨n1, f1⟩ <;> rcases S.set_get e2 with ⟨z2, rfl⟩ | ⟨n2, f2⟩
    · exact absurd (z1.trans z2.symm) n
    · subst z1
      rw [List.getElem?_set_self (by rw [E.len]; exact hi), List.getElem?_set_ne (Ne.symm n2)]
      intro q; cases q
      exact hf o1 k y (back n2 f2) o2
    · subst z2
      rw [List.getElem?_set_self (by rw [E.len]; exact hi), List.getElem?_set_ne (Ne.symm n1)]
      intro q q'; cases q'
      exact hf o2 j x (back n1 f1) o1 q
    · rw [List.getElem?_set_ne (Ne.symm n1), List.getElem?_set_ne (Ne.symm n2)]
      exact E.apart j k x y u n f1 o1 f2 o2
  sys := E.sys
/-- a name is bound to a result -/
def S.put (ρ : S) (i : Nat) : Res → S
  | .d x => ρ.set i (.d x)
  | .l xs => ρ.set i (.l xs)
  | .m ks xs => ρ.set i (.m ks xs)
  | .p j => match O.look ρ (.p j) with
    | some x => (ρ.fz j).set i (.d x)
    | none => ρ
theorem S.fz_len (i : Nat) : (ρ.fz i).v.length = ρ.v.length := by
  unfold S.fz; split <;> simp
theorem Fresh.un {i : Nat} (h : Fresh σ ρ v) : Fresh σ (ρ.un i) v := fun j x e hx => h j x (S.un_get e).2 hx
theorem ER.put {i : Nat} (E : ER P Hs H σ ρ) (hi : i < ρ.v.length) (h : RR P Hs H σ ρ v r) : ∃ Hs', Same Hs Hs' ∧ ER P Hs' H (σ.set i (some v)) (ρ.put i r) := by
  cases r with
  | d x => exact ⟨Hs, Same.refl _, E.set hi h fun z => by cases z⟩
  | l xs => exact ⟨Hs, Same.refl _, E.set (b := .l xs) hi h.1 fun _ => h.2.un⟩
  | m ks xs => exact ⟨Hs, Same.refl _, E.set (b := .m ks xs) hi h.1 fun _ => h.2.un⟩
  | p j =>
    obtain ⟨h1, b, h2, h3⟩ := h
    have hl : O.look ρ (.p j) = some b.dat := by simp only [O.look, h2]
    obtain ⟨Hs', g, E', q⟩ := E.fz h1 hl
    refine ⟨Hs', g, ?_⟩
    simp only [S.put, hl]
    exact E'.set (by rw [S.fz_len]; exact hi) q fun z => by cases z
/-- the def's own object is changed -/
theorem ER.mut {i : Nat} {b b' : B} {a : Addr} {o : HO} (E : ER P Hs H σ ρ) (hi : ρ.v[i]? = some (some b)) (ho : b.own = true) (hv : σ[i]? = some (some (.ref a))) (h : Own P Hs (upd H a o) b' (.ref a)) (ho' : b'.own = true) : ER P Hs (upd H a o) σ (ρ.set i b') := by
  obtain ⟨u, h1, h2⟩ := E.slot i b hi
  rw [hv] at h1; cases h1
  obtain ⟨a', o', q, hs, h0, hH⟩ := h2.ref ho
  cases q
  have hd : ∀ c, inDk P.dk c → c ≠ a := fun c hc z => E.dkin c hc (z ▸ h0)
  have hil : i < ρ.v.length := (List.getElem?_eq_some_iff.mp hi).1
  refine ⟨fun c u e => ?_, E.grow, fun c u e n => ?_, E.old, E.dk.to (fun c hc => E.dk.nos hc) fun c hc => upd_ne (hd c hc), E.dkin, by simpa [S.set] using E.len, fun j x e => ?_, fun j k x y u n e1 o1 e2 o2 => ?_, E.sys⟩
  · rw [upd_ne (ne_of_none e hs)]; exact E.sub c u e
  · rw [upd_ne (ne_of_none e h0)]; exact E.keep c u e n
  · rcases S.set_get e with ⟨rfl, rfl⟩ | ⟨n, e⟩
    · exact ⟨_, hv, h⟩
    · obtain ⟨w, q1, q2⟩ := E.slot j x e
      refine ⟨w, q1, ?_⟩
      cases x with
      | d x => exact q2
      | l xs =>
        obtain ⟨c, vs, rfl, z2, z3, z4, z5⟩ := q2
        have nc : c ≠ a := fun z => E.apart j i _ b _ n e rfl hi ho q1 (z ▸ hv)
        exact ⟨c, vs, rfl, z2, z3, by rw [upd_ne nc]; exact z4, z5⟩
      | m ks xs =>
        obtain ⟨c, vs, rfl, z2, z3, z4, z6, z5⟩ := q2
        have nc : c ≠ a := fun z => E.apart j i _ b _ n e rfl hi ho q1 (z ▸ hv)
        exact ⟨c, vs, rfl, z2, z3, by rw [upd_ne nc]; exact z4, z6, z5⟩
  · have f : ∀ {j : Nat} {x : B}, (ρ.set i b').v[j]? = some (some x) → x.own = true → ∃ x', ρ.v[j]? = some (some x') ∧ x'.own = true := fun {j x} e ox => by
      rcases S.set_get e with ⟨rfl, rfl⟩ | ⟨n, e⟩
      · exact ⟨b, hi, ho⟩
      · exact ⟨x, e, ox⟩
    obtain ⟨x', f1, f2⟩ := f e1 o1
    obtain ⟨y', f3, f4⟩ := f e2 o2
    exact E.apart j k x' y' u n f1 f2 f3 f4
/-- slots are forgotten -/
theorem ER.un {i : Nat} (E : ER P Hs H σ ρ) : ER P Hs H (σ.set i none) (ρ.un i) := by
  refine ⟨E.sub, E.grow, E.keep, E.old, E.dk, E.dkin, by simpa [S.un] using E.len, fun j x e => ?_, fun j k x y u n e1 o1 e2 o2 => ?_, E.sys⟩
  · obtain ⟨n, e⟩ := S.un_get e
    rw [List.getElem?_set_ne (Ne.symm n)]; exact E.slot j x e
  · obtain ⟨n1, e1⟩ := S.un_get e1
    obtain ⟨n2, e2⟩ := S.un_get e2
    rw [List.getElem?_set_ne (Ne.symm n1), List.getElem?_set_ne (Ne.symm n2)]
    exact E.apart j k x y u n e1 o1 e2 o2
def S.uns (ρ : S) : List Nat → S
  | [] => ρ
  | v :: vs => (ρ.uns vs).un v
theorem ER.uns (E : ER P Hs H σ ρ) : ∀ vs : List Nat, ER P Hs H (wipe σ vs) (ρ.uns vs)
  | [] => E
  | v :: vs => (ER.uns E vs).un
/-- behind a call: the callers' objects are as they were, but the deck -/
theorem ER.called {k : Nat} (E : ER P Hs H σ ρ) (g : Same Hs Hs') (s : Same Hs' H') (kp : ∀ b o, H b = some o → ¬ inDk P.dk b → H' b = some o) (old : ∀ b, H b ≠ none → Hs b = none → Hs' b = none) (hd : Dk P.dk Hs' H' k) :
    ER P Hs' H' σ { ρ with k := k } := by
  have hdk : ∀ b, inDk P.dk b → P.H0 b ≠ none := E.dkin
  refine ⟨s, E.grow.trans g, fun b o e n => kp b o (E.keep b o e n) n, fun b h1 h2 => ?_, hd, E.dkin, E.len, fun i x e => ?_, E.apart, E.sys⟩
  · refine old b ?_ (E.old b h1 h2)
    by_cases z : inDk P.dk b
    · obtain ⟨o, q⟩ := E.dk.there z; rw [q]; exact fun z => by cases z
    · cases q : P.H0 b with
      | none => exact absurd q h1
      | some o => rw [E.keep b o q z]; exact fun z => by cases z
  · obtain ⟨v, h1, h2⟩ := E.slot i x e
    refine ⟨v, h1, ?_⟩
    cases x with
    | d x => exact Rp.mono g _ _ h2
    | l xs =>
      obtain ⟨a, vs, rfl, z2, z3, z4, z5⟩ := h2
      have na : ¬ inDk P.dk a := fun z => E.dkin a z z3
      exact ⟨a, vs, rfl, old a (by rw [z4]; exact fun z => by cases z) z2, z3, kp _ _ z4 na, RpL.mono g _ _ z5⟩
    | m ks xs =>
      obtain ⟨a, vs, rfl, z2, z3, z4, z6, z5⟩ := h2
      have na : ¬ inDk P.dk a := fun z => E.dkin a z z3
      exact ⟨a, vs, rfl, old a (by rw [z4]; exact fun z => by cases z) z2, z3, kp _ _ z4 na, z6, RpL.mono g _ _ z5⟩
end

/-! ### judgements -/
abbrev W := S → (Res → S → Prop) → Prop
abbrev WT := S → (Bool → S → Prop) → Prop
abbrev WA := S → (List O → S → Prop) → Prop
structure C where
  nx : S → Prop
  rt : Res → S → Prop
  bk : S → Prop
  ct : S → Prop
abbrev WS := S → C → Prop
def ROs (P : Pm) (Hs : Hp) (σ : St) : List V → List O → Prop
  | vs, [] => vs = []
  | vs, o :: os => ∃ v r, vs = v :: r ∧ RO P Hs σ v o ∧ ROs P Hs σ r os
/- τ: values that wait (the parts of a tuple that are reckoned already) -/
def lift (P : Pm) (w : W) : TE := fun σ H Q => ∃ (τ : List V) (Hs : Hp) (ρ : S) (R : Res → S → Prop), ER P Hs H (σ ++ τ.map some) ρ ∧ w ρ R ∧ ∀ Hs' H' ρ' v r, Same Hs Hs' → ER P Hs' H' (σ ++ τ.map some) ρ' → RR P Hs' H' (σ ++ τ.map some) ρ' v r → R r ρ' → Q v H'
def liftT (P : Pm) (w : WT) : TT := fun σ H Q => ∃ (τ : List V) (Hs : Hp) (ρ : S) (R : Bool → S → Prop), ER P Hs H (σ ++ τ.map some) ρ ∧ w ρ R ∧ ∀ Hs' H' ρ' b, Same Hs Hs' → ER P Hs' H' (σ ++ τ.map some) ρ' → R b ρ' → Q b H'
def liftA (P : Pm) (w : WA) : TA := fun σ H Q => ∃ (τ : List V) (Hs : Hp) (ρ : S) (R : List O → S → Prop), ER P Hs H (σ ++ τ.map some) ρ ∧ w ρ R ∧ ∀ Hs' H' ρ' vs os, Same Hs Hs' → ER P Hs' H' (σ ++ τ.map some) ρ' → ROs P Hs' (σ ++ τ.map some) vs os → R os ρ' → Q vs H'
def liftS (P : Pm) (w : WS) : TS := fun D σ H => ∃ (Hs : Hp) (ρ : S) (c : C), ER P Hs H σ ρ ∧ w ρ c ∧ (∀ σ' Hs' H' ρ', Same Hs Hs' → ER P Hs' H' σ' ρ' → c.nx ρ' → D.nx σ' H') ∧
  (∀ σ' Hs' H' ρ' v r, Same Hs Hs' → ER P Hs' H' σ' ρ' → RR P Hs' H' σ' ρ' v r → c.rt r ρ' → D.rt v H') ∧ (∀ σ' Hs' H' ρ', Same Hs Hs' → ER P Hs' H' σ' ρ' → c.bk ρ' → D.bk σ' H') ∧ (∀ σ' Hs' H' ρ', Same Hs Hs' → ER P Hs' H' σ' ρ' → c.ct ρ' → D.ct σ' H')
/-- the parameters fit the context -/
structure Fit (X : Cx) (dk : Option (Addr × Addr)) (P : Pm) : Prop where
  K : P.K = X.K
  dk : P.dk = dk
def JE (X : Cx) (dk : Option (Addr × Addr)) (e : Expr) (w : W) : Prop := ∀ P, Fit X dk P → PE X e (lift P w)
def JT (X : Cx) (dk : Option (Addr × Addr)) (e : Expr) (w : WT) : Prop := ∀ P, Fit X dk P → PT X e (liftT P w)
def JW (X : Cx) (dk : Option (Addr × Addr)) (e : Expr) (w : WT) : Prop := ∀ P, Fit X dk P → PW X e (liftT P w)
def JA (X : Cx) (dk : Option (Addr × Addr)) (es : List Expr) (w : WA) : Prop := ∀ P, Fit X dk P → PA X es (liftA P w)
def JS (X : Cx) (dk : Option (Addr × Addr)) (st : Stmt) (w : WS) : Prop := ∀ P, Fit X dk P → PS X st (liftS P w)
def JSs (X : Cx) (dk : Option (Addr × Addr)) (st : List Stmt) (w : WS) : Prop := ∀ P, Fit X dk P → PSs X st (liftS P w)

section
variable {X : Cx} {e : Expr} {es : List Expr} {st : Stmt} {sts : List Stmt}
theorem pe_weak {t t' : TE} (h : PE X e t) (k : ∀ σ H Q, t' σ H Q → t σ H Q) : PE X e t' := ⟨fun pins s σ H Q I q => h.run pins s σ H Q I (k _ _ _ q)⟩
theorem pt_weak {t t' : TT} (h : PT X e t) (k : ∀ σ H Q, t' σ H Q → t σ H Q) : PT X e t' := ⟨fun pins s σ H Q I q => h.run pins s σ H Q I (k _ _ _ q)⟩
theorem pw_weak {t t' : TT} (h : PW X e t) (k : ∀ σ H Q, t' σ H Q → t σ H Q) : PW X e t' := ⟨fun wh pins s σ H Q I q => h.run wh pins s σ H Q I (k _ _ _ q)⟩
theorem pa_weak {t t' : TA} (h : PA X es t) (k : ∀ σ H Q, t' σ H Q → t σ H Q) : PA X es t' := ⟨fun pos pins s σ H Q I q => h.run pos pins s σ H Q I (k _ _ _ q)⟩
theorem ps_weak {t t' : TS} (h : PS X st t) (k : ∀ D σ H, t' D σ H → t D σ H) : PS X st t' := ⟨fun pins s σ H D I q => h.run pins s σ H D I (k _ _ _ q)⟩
theorem pss_weak {t t' : TS} (h : PSs X sts t) (k : ∀ D σ H, t' D σ H → t D σ H) : PSs X sts t' := ⟨fun pins s σ H D I q => h.run pins s σ H D I (k _ _ _ q)⟩
end
end Pz

set_option maxRecDepth 100000
set_option maxHeartbeats 4000000
/-! Pz, part 3: expressions. -/
namespace Pz
open PySem L2

/-! ### operations on data -/
abbrev F1 := D → (Res → Prop) → Prop
abbrev F2 := D → D → (Res → Prop) → Prop
abbrev FN := List D → (Res → Prop) → Prop
def b01 (b : Bool) : Int := if b = true then 1 else 0
def fAdd : F2
  | .int i, .int j, R => R (.d (.int (i + j)))
  | .bl b, .int j, R => R (.d (.int (b01 b + j)))
  | .str x, .str y, R => x.length + y.length ≤ sizeLine ∧ R (.d (.str (x ++ y)))
  | .lst xs, .lst ys, R => xs.length + ys.length ≤ sizeLine ∧ R (.l (xs ++ ys))
  | .tup xs, .tup ys, R => xs.length + ys.length ≤ sizeLine ∧ R (.d (.tup (xs ++ ys)))
  | _, _, _ => False
def fSub : F2
  | .int i, .int j, R => R (.d (.int (i - j)))
  | .bl b, .int j, R => R (.d (.int (b01 b - j)))
  | _, _, _ => False
def strRep (x : Str) (n : Int) : Str := if n < 1 then Str.empty else if (n == 1 || x.length == 0) = true then x else ⟨(List.replicate n.toNat x.cps).foldl (· ++ ·) #[]⟩
def fMul : F2
  | .int i, .int j, R => CMul i j ∧ R (.d (.int (i * j)))
  | .lst xs, .int k, R => (-(2 ^ 63) ≤ k ∧ k < 2 ^ 63 ∧ xs.length * k.toNat ≤ sizeLine) ∧ R (.l (List.replicate k.toNat xs).flatten)
  | .str x, .int k, R => (-(2 ^ 63) ≤ k ∧ k < 2 ^ 63 ∧ x.length * k.toNat ≤ sizeLine) ∧ R (.d (.str (strRep x k)))
  | .tup xs, .int k, R => (xs ≠ [] ∧ 2 ≤ k ∧ k ≤ 1000 ∧ xs.length ≤ 1000) ∧ R (.d (.tup (List.replicate k.toNat xs).flatten))
  | _, _, _ => False
def fDiv : F2
  | .int i, .int j, R => CDiv i j ∧ R (.d (.int (i / j)))
  | _, _, _ => False
def fMod : F2
  | .int i, .int j, R => 0 < j ∧ R (.d (.int (i % j)))
  | _, _, _ => False
def fPow : F2
  | .int i, .int j, R => CPow i j ∧ R (.d (.int (i ^ j.toNat)))
  | _, _, _ => False
def fBor : F2
  | .int i, .int j, R => R (.d (.int (Builtin.bitOr i j)))
  | _, _, _ => False
def fBand : F2
  | .int i, .int j, R => R (.d (.int (Builtin.bitAnd i j)))
  | _, _, _ => False
def fBin : Operator → F2
  | .Add => fAdd
  | .Sub => fSub
  | .Mult => fMul
  | .FloorDiv => fDiv
  | .Mod => fMod
  | .Pow => fPow
  | .BitOr => fBor
  | .BitAnd => fBand
  | _ => fun _ _ _ => False
def fNeg : F1
  | .int i, R => R (.d (.int (-i)))
  | _, _ => False

def Op2 (K : PySem.W.Frag) (r : R2) (f : F2) : Prop := ∀ {Hs H : Hp} {x y : D} {v u : V} {R : Res → Prop} {Q : VK}, Same Hs H → Sys H → Rt K Hs H x v → Rt K Hs H y u → f x y R → (∀ z res H', NR K Hs H z res H' → R res → Q z H') → r v u H Q
def Op1 (K : PySem.W.Frag) (r : V → Hp → VK → Prop) (f : F1) : Prop := ∀ {Hs H : Hp} {x : D} {v : V} {R : Res → Prop} {Q : VK}, Same Hs H → Sys H → Rt K Hs H x v → f x R → (∀ z res H', NR K Hs H z res H' → R res → Q z H') → r v H Q
def OpN (K : PySem.W.Frag) (r : List V → Hp → VK → Prop) (f : FN) : Prop := ∀ {Hs H : Hp} {ds : List D} {vs : List V} {R : Res → Prop} {Q : VK}, Same Hs H → Sys H → RtL K Hs H ds vs → f ds R → (∀ z res H', NR K Hs H z res H' → R res → Q z H') → r vs H Q

section
variable {X : Cx} {K : PySem.W.Frag}
theorem nr_int {Hs H : Hp} {i : Int} : NR K Hs H (.int i) (.d (.int i)) H := .old rfl
theorem nr_bl {Hs H : Hp} {b : Bool} : NR K Hs H (.bl b) (.d (.bl b)) H := .old rfl
theorem nr_str {Hs H : Hp} {b : Str} : NR K Hs H (.str b) (.d (.str b)) H := .old rfl
theorem nr_non {Hs H : Hp} : NR K Hs H .non (.d .non) H := .old rfl

theorem rep_size (y : Array Nat) : ∀ (n : Nat) (acc : Array Nat), (List.foldl (fun x1 x2 => x1 ++ x2) acc (List.replicate n y)).size = acc.size + n * y.size
  | 0, acc => by simp
  | n + 1, acc => by
    rw [List.replicate_succ, List.foldl_cons, rep_size y n, Array.size_append, Nat.succ_mul]
    omega
theorem op_mul_sk : OpR X (binaryOp .Mult) (fun x y H Q => ∃ (z : Str) (k : Int), x = .str z ∧ y = .int k ∧ (-(2 ^ 63) ≤ k ∧ k < 2 ^ 63 ∧ z.length * k.toNat ≤ sizeLine) ∧ Q (.str (strRep z k)) H) := by
  intro pins s σ H x y v u Q I rx ry h
  obtain ⟨z, k, rfl, rfl, ⟨h1, h2, h4⟩, q⟩ := h
  obtain ⟨t, rfl⟩ := rx
  obtain ⟨t', rfl⟩ := ry
  have hs : sizeLine = 16777216 := sizeLine_eq
  refine PySem.P.mul_str ?_ (fun n1 _ => ?_) (fun n1 _ => ?_) ?_
  · have e1 : decide (k < -(2 ^ 63 : Int)) = false := decide_eq_false (by omega)
    have e2 : decide (k ≥ 2 ^ 63) = false := decide_eq_false (by omega)
    rw [e1, e2]; rfl
  · have hk : 0 < k := by omega
    have e : (z.length : Int) * k ≤ 2 ^ 63 - 1 := by
      have h5 : ((z.length * k.toNat : Nat) : Int) ≤ ((16777216 : Nat) : Int) := Int.ofNat_le.mpr (by rw [← hs]; exact h4)
      rw [Int.natCast_mul, Int.toNat_of_nonneg (by omega)] at h5
      omega
    have := (Int.le_ediv_iff_mul_le hk).mpr e
    omega
  · unfold Builtin.Str.tooLong
    exact decide_eq_false (by omega)
  · unfold strRep at q
    by_cases c1 : k < 1
    · rw [if_pos c1]; rw [if_pos c1] at q
      exact ⟨by show 0 ≤ sizeLine; omega, .str _, H, I.tok _, ⟨_, rfl⟩, q⟩
    · rw [if_neg c1]; rw [if_neg c1] at q
      by_cases c2 : (k == 1 || z.length == 0) = true
      · rw [if_pos c2]; rw [if_pos c2] at q
        exact ⟨.str _, H, I, ⟨_, rfl⟩, q⟩
      · rw [if_neg c2]; rw [if_neg c2] at q
        refine ⟨?_, .str _, H, I.tok _, ⟨_, rfl⟩, q⟩
        show (List.foldl (fun x1 x2 => x1 ++ x2) #[] (List.replicate k.toNat z.cps)).size ≤ sizeLine
        rw [rep_size]
        have e : (#[] : Array Nat).size = 0 := rfl
        rw [e, Nat.zero_add, Nat.mul_comm]
        exact h4

theorem OpR.weak {f : Value → Value → Sem Value} {r r' : R2} (h : OpR X f r) (k : ∀ x y H Q, r' x y H Q → r x y H Q) : OpR X f r' := fun pins s σ H x y v u Q I rx ry q => h pins s σ H x y v u Q I rx ry (k _ _ _ _ q)
/-- an operation on data -/
def Bin (X : Cx) (f : Value → Value → Sem Value) (g : F2) : Prop := ∃ r, OpR X f r ∧ Op2 X.K r g
theorem Bin.of {f : Value → Value → Sem Value} {r : R2} {g : F2} (h : OpR X f r) (k : Op2 X.K r g) : Bin X f g := ⟨r, h, k⟩

theorem op_add_bi : OpR X (binaryOp .Add) (fun x y H Q => ∃ b j, x = .bl b ∧ y = .int j ∧ Q (.int (b01 b + j)) H) := by
  intro pins s σ H x y v u Q I rx ry h
  obtain ⟨b, j, rfl, rfl, q⟩ := h
  cases rx
  obtain ⟨t, rfl⟩ := ry
  exact IntBool.add_bool_int ⟨.int (b01 b + j), H, I.tok _, ⟨_, rfl⟩, q⟩
theorem op_sub_bi : OpR X (binaryOp .Sub) (fun x y H Q => ∃ b j, x = .bl b ∧ y = .int j ∧ Q (.int (b01 b - j)) H) := by
  intro pins s σ H x y v u Q I rx ry h
  obtain ⟨b, j, rfl, rfl, q⟩ := h
  cases rx
  obtain ⟨t, rfl⟩ := ry
  exact IntBool.sub_bool_int ⟨.int (b01 b - j), H, I.tok _, ⟨_, rfl⟩, q⟩
theorem bin_add : Bin X (binaryOp .Add) fAdd := .of (op_add.or (op_add_str.or (op_cat.or (op_catA.or op_add_bi)))) fun {Hs H x y v u R Q} e sy hx hy hf k => by
  cases x with
  | int i =>
    cases y with
    | int j => cases (show v = _ from hx); cases (show u = _ from hy); exact .inl ⟨i, j, rfl, rfl, k _ _ _ nr_int hf⟩
    | _ => exact hf.elim
  | str i =>
    cases y with
    | str j => cases (show v = _ from hx); cases (show u = _ from hy); exact .inr (.inl ⟨i, j, rfl, rfl, hf.1, k _ _ _ nr_str hf.2⟩)
    | _ => exact hf.elim
  | lst xs =>
    cases y with
    | lst ys =>
      obtain ⟨a, vs, rfl, h1, h2⟩ := hx
      obtain ⟨b, ws, rfl, h3, h4⟩ := hy
      exact .inr (.inr (.inl ⟨a, b, vs, ws, rfl, rfl, h1, h3, by rw [← h2.length, ← h4.length]; exact hf.1, fun p hp => k _ _ _ (.nl hp (h2.append h4)) hf.2⟩))
    | _ => exact hf.elim
  | tup xs =>
    cases y with
    | tup ys =>
      have hx0 : Rp X.K Hs (.tup xs) v := hx
      have hy0 : Rp X.K Hs (.tup ys) u := hy
      obtain ⟨a, vs, rfl, h1, h2⟩ := hx
      obtain ⟨b, ws, rfl, h3, h4⟩ := hy
      refine .inr (.inr (.inr (.inl ⟨a, b, vs, ws, rfl, rfl, same_t e h1, same_t e h3, by rw [← h2.length, ← h4.length]; exact hf.1, fun z => ?_, fun z z2 => ?_, fun _ _ p hp => k _ _ _ (.nt hp (h2.append h4)) hf.2⟩)))
      · subst z
        have e1 : xs = [] := List.eq_nil_of_length_eq_zero (by rw [h2.length]; rfl)
        subst e1
        exact k _ (.d (.tup ([] ++ ys))) _ (.old hy0) hf.2
      · subst z2
        have e1 : ys = [] := List.eq_nil_of_length_eq_zero (by rw [h4.length]; rfl)
        subst e1
        refine k _ (.d (.tup (xs ++ []))) _ (.old ?_) hf.2
        rw [List.append_nil]; exact hx0
    | _ => exact hf.elim
  | bl i =>
    cases y with
    | int j => cases (show v = _ from hx); cases (show u = _ from hy); exact .inr (.inr (.inr (.inr ⟨i, j, rfl, rfl, k _ _ _ nr_int hf⟩)))
    | _ => exact hf.elim
  | _ => cases y <;> exact hf.elim
theorem bin_sub : Bin X (binaryOp .Sub) fSub := .of (op_sub.or op_sub_bi) fun {Hs H x y v u R Q} e sy hx hy hf k => by
  cases x with
  | int i =>
    cases y with
    | int j => cases (show v = _ from hx); cases (show u = _ from hy); exact .inl ⟨i, j, rfl, rfl, k _ _ _ nr_int hf⟩
    | _ => exact hf.elim
  | bl i =>
    cases y with
    | int j => cases (show v = _ from hx); cases (show u = _ from hy); exact .inr ⟨i, j, rfl, rfl, k _ _ _ nr_int hf⟩
    | _ => exact hf.elim
  | _ => cases y <;> exact hf.elim
theorem RpL.rep {Hs : Hp} {ds : List D} {vs : List V} (h : RpL K Hs ds vs) : ∀ n : Nat, RpL K Hs (List.replicate n ds).flatten (List.replicate n vs).flatten
  | 0 => rfl
  | n + 1 => by rw [List.replicate_succ, List.replicate_succ, List.flatten_cons, List.flatten_cons]; exact h.append (RpL.rep h n)
theorem bin_mul : Bin X (binaryOp .Mult) fMul := .of (op_mul.or (op_rep.or (op_mul_sk.or op_repT))) fun {Hs H x y v u R Q} e sy hx hy hf k => by
  cases x with
  | int i =>
    cases y with
    | int j => cases (show v = _ from hx); cases (show u = _ from hy); exact .inl ⟨i, j, rfl, rfl, hf.1, k _ _ _ nr_int hf.2⟩
    | _ => exact hf.elim
  | lst xs =>
    cases y with
    | int j =>
      obtain ⟨a, vs, rfl, h1, h2⟩ := hx
      cases (show u = _ from hy)
      exact .inr (.inl ⟨a, j, vs, rfl, rfl, h1, hf.1.1, hf.1.2.1, by rw [← h2.length]; exact hf.1.2.2, fun p hp => k _ _ _ (.nl hp (h2.rep _)) hf.2⟩)
    | _ => exact hf.elim
  | str z =>
    cases y with
    | int j => cases (show v = _ from hx); cases (show u = _ from hy); exact .inr (.inr (.inl ⟨z, j, rfl, rfl, hf.1, k _ _ _ nr_str hf.2⟩))
    | _ => exact hf.elim
  | tup xs =>
    cases y with
    | int j =>
      obtain ⟨a, vs, rfl, h1, h2⟩ := hx
      cases (show u = _ from hy)
      have hl := h2.length
      refine .inr (.inr (.inr ⟨a, j, vs, rfl, rfl, same_t e h1, fun z => ?_, hf.1.2.1, hf.1.2.2.1, by rw [← hl]; exact hf.1.2.2.2, fun p hp => k _ _ _ (.nt hp (h2.rep _)) hf.2⟩))
      subst z
      exact hf.1.1 (List.eq_nil_of_length_eq_zero (by rw [hl]; rfl))
    | _ => exact hf.elim
  | _ => cases y <;> exact hf.elim
theorem bin_div : Bin X (binaryOp .FloorDiv) fDiv := .of op_fdiv fun {Hs H x y v u R Q} e sy hx hy hf k => by
  cases x with
  | int i =>
    cases y with
    | int j => cases (show v = _ from hx); cases (show u = _ from hy); exact ⟨i, j, rfl, rfl, hf.1, k _ _ _ nr_int hf.2⟩
    | _ => exact hf.elim
  | _ => cases y <;> exact hf.elim
theorem bin_mod : Bin X (binaryOp .Mod) fMod := .of op_mod fun {Hs H x y v u R Q} e sy hx hy hf k => by
  cases x with
  | int i =>
    cases y with
    | int j => cases (show v = _ from hx); cases (show u = _ from hy); exact ⟨i, j, rfl, rfl, hf.1, k _ _ _ nr_int hf.2⟩
    | _ => exact hf.elim
  | _ => cases y <;> exact hf.elim
theorem bin_pow : Bin X (binaryOp .Pow) fPow := .of op_pow fun {Hs H x y v u R Q} e sy hx hy hf k => by
  cases x with
  | int i =>
    cases y with
    | int j => cases (show v = _ from hx); cases (show u = _ from hy); exact ⟨i, j, rfl, rfl, hf.1, k _ _ _ nr_int hf.2⟩
    | _ => exact hf.elim
  | _ => cases y <;> exact hf.elim
theorem bin_bor : Bin X (binaryOp .BitOr) fBor := .of op_or fun {Hs H x y v u R Q} e sy hx hy hf k => by
  cases x with
  | int i =>
    cases y with
    | int j => cases (show v = _ from hx); cases (show u = _ from hy); exact ⟨i, j, rfl, rfl, k _ _ _ nr_int hf⟩
    | _ => exact hf.elim
  | _ => cases y <;> exact hf.elim
theorem bin_band : Bin X (binaryOp .BitAnd) fBand := .of op_and fun {Hs H x y v u R Q} e sy hx hy hf k => by
  cases x with
  | int i =>
    cases y with
    | int j => cases (show v = _ from hx); cases (show u = _ from hy); exact ⟨i, j, rfl, rfl, k _ _ _ nr_int hf⟩
    | _ => exact hf.elim
  | _ => cases y <;> exact hf.elim
theorem bin_false {f : Value → Value → Sem Value} : Bin X f (fun _ _ _ => False) := .of (r := fun _ _ _ _ => False) (fun _ _ _ _ _ _ _ _ _ _ _ _ q => q.elim) fun _ _ _ _ hf _ => hf
theorem bin_all : ∀ op : Operator, Bin X (binaryOp op) (fBin op)
  | .Add => bin_add
  | .Sub => bin_sub
  | .Mult => bin_mul
  | .FloorDiv => bin_div
  | .Mod => bin_mod
  | .Pow => bin_pow
  | .BitOr => bin_bor
  | .BitAnd => bin_band
  | .MatMult => bin_false
  | .Div => bin_false
  | .LShift => bin_false
  | .RShift => bin_false
  | .BitXor => bin_false
end
end Pz

set_option maxRecDepth 100000
set_option maxHeartbeats 4000000
/-! Pz, part 4: data as the library reads it; comparisons, isinstance, repr, len .. -/
namespace Pz
open PySem L2

def keyPy : Key → PyData
  | .inl i => .int i
  | .inr x => .str x
mutual
def D.py : D → PyData
  | .non => .none
  | .bl b => .bool b
  | .int i => .int i
  | .str x => .str x
  | .lst xs => .list (D.pyL xs)
  | .tup xs => .tuple (D.pyL xs)
  | .dic ks xs => .dict ((ks.map keyPy).zip (D.pyL xs))
  | .dit _ _ => .none
  | .ins _ _ _ => .none
  | .cst _ => .none
def D.pyL : List D → List PyData
  | [] => []
  | d :: ds => d.py :: D.pyL ds
end
mutual
/-- data that the library reads: nothing opaque within, keys as many as values -/
def D.isD : D → Bool
  | .non => true
  | .bl _ => true
  | .int _ => true
  | .str _ => true
  | .lst xs => D.isDL xs
  | .tup xs => D.isDL xs
  | .dic _ xs => D.isDL xs
  | .dit _ _ => false
  | .ins _ _ _ => false
  | .cst _ => false
def D.isDL : List D → Bool
  | [] => true
  | d :: ds => d.isD && D.isDL ds
end
theorem D.pyL_map : ∀ xs : List D, D.pyL xs = xs.map D.py
  | [] => rfl
  | d :: ds => by simp only [D.pyL, List.map_cons, D.pyL_map ds]
theorem D.isDL_all : ∀ xs : List D, D.isDL xs = xs.all D.isD
  | [] => rfl
  | d :: ds => by simp only [D.isDL, List.all_cons, D.isDL_all ds]
theorem pairs_keys {P : Program} {w : World} {h : Heap} : ∀ {es : List DictEntry} {kvs : List (Key × Value)}, Pairs (mixKind P w) es kvs → ReadsAll h (es.map (·.key)) (kvs.map fun kv => keyPy kv.1) []
  | _, _, .nil => .nil
  | _, _, .cons (e := e) (kv := kv) h1 h2 h3 => by
    have e1 : (mixKind P w).is kv.1 e.key = keyIs kv.1 e.key := rfl
    rw [e1] at h1
    refine .cons (as := []) (bs := []) ?_ (pairs_keys h3)
    rcases keyIs_shape h1 with ⟨i, t, q1, q2⟩ | ⟨x, t, q1, q2⟩
    · show Reads h e.key (keyPy kv.1) []
      rw [q1, q2]; exact .int i t
    · show Reads h e.key (keyPy kv.1) []
      rw [q1, q2]; exact .str x t
theorem pairs_vals {P : Program} {w : World} : ∀ {es : List DictEntry} {kvs : List (Key × Value)}, Pairs (mixKind P w) es kvs → es.map (·.val) = kvs.map (·.2)
  | _, _, .nil => rfl
  | _, _, .cons h1 h2 h3 => by rw [List.map_cons, List.map_cons, h2, pairs_vals h3]
theorem kv_split {κ : Type} : ∀ {ks : List κ} {vs : List V} {ws : List (κ × Value)}, KV (ks.zip vs) ws → ks.length = vs.length → ws.map (·.1) = ks ∧ Vals vs (ws.map (·.2))
  | [], [], _, .nil, _ => ⟨rfl, .nil⟩
  | k :: ks, v :: vs, _, .cons r t, e => by
    obtain ⟨h1, h2⟩ := kv_split t (by simpa using e)
    exact ⟨by rw [List.map_cons, h1]; rw [← r.1], .cons r.2 h2⟩
  | [], _ :: _, _, _, e => by simp at e
  | _ :: _, [], _, _, e => by simp at e

section
variable {X : Cx} {pins : List (Addr × Obj)} {σ : St} {H : Hp} {s : Shared}
mutual
theorem Rp.reads (I : Inv X pins σ H s) (hy : Sys H) : ∀ (d : D) (v : V) (u : Value), d.isD = true → Rp X.K H d v → RelV v u → ∃ as, Reads s.heap u d.py as ∧ ∀ b ∈ as, b ≠ sysModules
  | .non, _, _, _, h, r => by cases h; cases r; exact ⟨_, Reads.none, by simp⟩
  | .bl b, _, _, _, h, r => by cases h; cases r; exact ⟨_, Reads.bool b, by simp⟩
  | .int i, _, _, _, h, r => by cases h; obtain ⟨t, rfl⟩ := r; exact ⟨_, Reads.int i t, by simp⟩
  | .str x, _, _, _, h, r => by cases h; obtain ⟨t, rfl⟩ := r; exact ⟨_, Reads.str x t, by simp⟩
  | .lst xs, _, _, hd, ⟨a, vs, e, h1, h2⟩, r => by
    subst e
    cases r
    obtain ⟨its, rv, ⟨o, n, ho, hc, _, hdt⟩, _⟩ := I.list (SqL.of h1)
    obtain ⟨as, hr, hn⟩ := RpL.reads I hy xs vs its (by simpa [D.isD] using hd) h2 rv
    refine ⟨_, by simp only [D.py]; exact Reads.list ho hc hdt hr, fun b hb => ?_⟩
    rcases List.mem_cons.mp hb with rfl | hb
    · intro z
      obtain ⟨o, φ, q⟩ := hy
      rw [z, q] at h1; cases h1
    · exact hn b hb
  | .tup xs, _, _, hd, ⟨a, vs, e, h1, h2⟩, r => by
    subst e
    cases r
    obtain ⟨its, rv, ⟨o, ho, hc, n, hdt⟩, _⟩ := I.tuple h1
    obtain ⟨as, hr, hn⟩ := RpL.reads I hy xs vs its (by simpa [D.isD] using hd) h2 rv
    exact ⟨_, by simp only [D.py]; exact Reads.tuple ho hc hdt hr, hn⟩
  | .dic ks xs, _, _, hd, ⟨a, vs, e, h1, hl, h2⟩, r => by
    subst e
    cases r
    obtain ⟨z, hs, ws, rel, o, es, ep, ho, hx, hdt, hk, hp, hnd⟩ := I.hok a _ h1
    obtain ⟨e1, e2⟩ := kv_split rel (hl.trans h2.length)
    obtain ⟨as, hr, hn⟩ := RpL.reads I hy xs vs _ (by simpa [D.isD] using hd) h2 e2
    have hpl : (D.pyL xs).length = ks.length := by rw [D.pyL_map, List.length_map]; exact hl.symm
    refine ⟨_, by
      simp only [D.py]
      refine Reads.dict (kvs := (ks.map keyPy).zip (D.pyL xs)) (as := []) (bs := as) ho hx.1 hdt ?_ ?_
      · have := pairs_keys (h := s.heap) hp
        rw [List.map_fst_zip (by rw [List.length_map, hpl]; exact Nat.le_refl _)]
        have q : ws.map (fun kv => keyPy kv.1) = ks.map keyPy := by rw [← e1, List.map_map]; rfl
        rw [q] at this
        exact this
      · rw [List.map_snd_zip (by rw [List.length_map, hpl]; exact Nat.le_refl _), pairs_vals hp]
        exact hr, fun b hb => ?_⟩
    simp only [List.append_nil, List.cons_append, List.nil_append] at hb
    rcases List.mem_cons.mp hb with rfl | hb
    · intro z; rw [z] at hs; simp at hs
    · exact hn b hb
  | .dit _ _, _, _, hd, _, _ => by cases hd
  | .ins _ _ _, _, _, hd, _, _ => by cases hd
  | .cst _, _, _, hd, _, _ => by cases hd
theorem RpL.reads (I : Inv X pins σ H s) (hy : Sys H) : ∀ (ds : List D) (vs : List V) (us : List Value), D.isDL ds = true → RpL X.K H ds vs → Vals vs us → ∃ as, ReadsAll s.heap us (D.pyL ds) as ∧ ∀ b ∈ as, b ≠ sysModules
  | [], _, _, _, h, r => by
    cases h
    cases r
    exact ⟨_, ReadsAll.nil, by simp⟩
  | d :: ds, _, _, hd, ⟨v, vs, e, h1, h2⟩, r => by
    subst e
    cases r with
    | cons r1 r2 =>
      simp only [D.isDL, Bool.and_eq_true] at hd
      obtain ⟨as, q1, n1⟩ := Rp.reads I hy d v _ hd.1 h1 r1
      obtain ⟨bs, q2, n2⟩ := RpL.reads I hy ds vs _ hd.2 h2 r2
      exact ⟨_, ReadsAll.cons q1 q2, fun b hb => (List.mem_append.mp hb).elim (n1 b) (n2 b)⟩
end
end
end Pz

set_option maxRecDepth 100000
set_option maxHeartbeats 4000000
/-! Pz, part 30: a dict is not the same as a thing of another kind. -/
namespace Pz
open PySem L2 PySem.Spec PyProof.Rows PySem.SeqAt
theorem dn_non (l : Addr) (es : Array DictEntry) (ep : Nat) (dd : Option Addr) (sl : Array (Option Value))  : Meets (Builtin.«dict.__eq__» ⟨[.ref l, .none], []⟩) (fun _ R s => (s.heap.get? l = some { cls := .type "dict", dict := dd, data := .dict es ep, slots := sl }) ∧ R (.ok (.ret .notImplemented)) s) :=
  .of_wp fun prog w A R s h => by obtain ⟨hp, g, d, tk, os⟩ := s; obtain ⟨hl, h⟩ := h; have f1 := PySem.F.sub_NoneType_dict; have f2 := PySem.F.sub_dict_NoneType; wp_walk using wpAny_loadPart' hl, wpAny_load hl; exact ⟨_, rfl, h⟩
theorem nd_non (l : Addr) (es : Array DictEntry) (ep : Nat) (dd : Option Addr) (sl : Array (Option Value))  : Meets (Builtin.«NoneType.__eq__» ⟨[.none, .ref l], []⟩) (fun _ R s => (s.heap.get? l = some { cls := .type "dict", dict := dd, data := .dict es ep, slots := sl }) ∧ R (.ok (.ret .notImplemented)) s) :=
  .of_wp fun prog w A R s h => by obtain ⟨hp, g, d, tk, os⟩ := s; obtain ⟨hl, h⟩ := h; have f1 := PySem.F.sub_NoneType_dict; have f2 := PySem.F.sub_dict_NoneType; wp_walk using wpAny_loadPart' hl, wpAny_load hl; exact ⟨_, rfl, h⟩
theorem rc_dnon {A : Around} {s : Shared} {l : Addr} {o : Obj} {es : Array DictEntry} {ep : Nat}  (ho : s.heap.get? l = some o) (hc : o.cls = .type "dict") (hd : o.data = .dict es ep) (hu : A.units < cLine) : RcAt A s (.ref l) (.none) false := fun prog w E Q h => by
  obtain ⟨oc, od, dt, os⟩ := o
  simp only at hc hd
  subst hc hd
  exact rc_eq_decline_or (k := false) ⟨_, ho, rfl⟩ (rfl) (by decide) PySem.F.sub_NoneType_dict PySem.F.slot_dict_eq PySem.F.slot_NoneType_eq_refl (fun _ q => call_meets PySem.F.slot_dict_eq ⟨_, ho, rfl⟩ PySem.F.entry_dict_eq (PySem.F.args_dict_eq_2 _ _) (dn_non l es ep od os ) ⟨ho, q⟩) (fun _ q => call_meets PySem.F.slot_NoneType_eq_refl (rfl) PySem.F.entry_NoneType_eq (PySem.F.args_NoneType_eq_2 _ _) (nd_non l es ep od os ) ⟨ho, q⟩) (fun _ q => wpAny_of_eq (rfl : isSame (.ref l) (.none) = pure false) q) (.inr hu) h
theorem eq_dnon {A : Around} {s : Shared} {l : Addr} {o : Obj} {es : Array DictEntry} {ep : Nat}  (ho : s.heap.get? l = some o) (hc : o.cls = .type "dict") (hd : o.data = .dict es ep) (hu : A.units < cLine) : EqAt A s (.ref l) (.none) false := 
  fun prog w E Q h => by
    unfold eqBool
    refine wpAny_holding (wpAny_ite_split (fun hab => absurd (eq_of_beq hab) nofun) fun _ => ?_)
    exact wpAny_bind (rc_dnon ho hc hd hu prog w E _ (wpAny_truthy_bool h))
theorem rc_nond {A : Around} {s : Shared} {l : Addr} {o : Obj} {es : Array DictEntry} {ep : Nat}  (ho : s.heap.get? l = some o) (hc : o.cls = .type "dict") (hd : o.data = .dict es ep) (hu : A.units < cLine) : RcAt A s (.none) (.ref l) false := fun prog w E Q h => by
  obtain ⟨oc, od, dt, os⟩ := o
  simp only at hc hd
  subst hc hd
  exact rc_eq_decline_or (k := false) (rfl) ⟨_, ho, rfl⟩ (by decide) PySem.F.sub_dict_NoneType PySem.F.slot_NoneType_eq PySem.F.slot_dict_eq_refl (fun _ q => call_meets PySem.F.slot_NoneType_eq (rfl) PySem.F.entry_NoneType_eq (PySem.F.args_NoneType_eq_2 _ _) (nd_non l es ep od os ) ⟨ho, q⟩) (fun _ q => call_meets PySem.F.slot_dict_eq_refl ⟨_, ho, rfl⟩ PySem.F.entry_dict_eq (PySem.F.args_dict_eq_2 _ _) (dn_non l es ep od os ) ⟨ho, q⟩) (fun _ q => wpAny_of_eq (rfl : isSame (.none) (.ref l) = pure false) q) (.inr hu) h
theorem eq_nond {A : Around} {s : Shared} {l : Addr} {o : Obj} {es : Array DictEntry} {ep : Nat}  (ho : s.heap.get? l = some o) (hc : o.cls = .type "dict") (hd : o.data = .dict es ep) (hu : A.units < cLine) : EqAt A s (.none) (.ref l) false := 
  fun prog w E Q h => by
    unfold eqBool
    refine wpAny_holding (wpAny_ite_split (fun hab => absurd (eq_of_beq hab) nofun) fun _ => ?_)
    exact wpAny_bind (rc_nond ho hc hd hu prog w E _ (wpAny_truthy_bool h))
theorem dn_bl (l : Addr) (es : Array DictEntry) (ep : Nat) (dd : Option Addr) (sl : Array (Option Value)) (b : Bool) : Meets (Builtin.«dict.__eq__» ⟨[.ref l, .bool b], []⟩) (fun _ R s => (s.heap.get? l = some { cls := .type "dict", dict := dd, data := .dict es ep, slots := sl }) ∧ R (.ok (.ret .notImplemented)) s) :=
  .of_wp fun prog w A R s h => by obtain ⟨hp, g, d, tk, os⟩ := s; obtain ⟨hl, h⟩ := h; have f1 := PySem.F.sub_bool_dict; have f2 := PySem.F.sub_dict_bool; wp_walk using wpAny_loadPart' hl, wpAny_load hl; exact ⟨_, rfl, h⟩
theorem nd_bl (l : Addr) (es : Array DictEntry) (ep : Nat) (dd : Option Addr) (sl : Array (Option Value)) (b : Bool) : Meets (Builtin.«int.__eq__» ⟨[.bool b, .ref l], []⟩) (fun _ R s => (s.heap.get? l = some { cls := .type "dict", dict := dd, data := .dict es ep, slots := sl }) ∧ R (.ok (.ret .notImplemented)) s) :=
  .of_wp fun prog w A R s h => by obtain ⟨hp, g, d, tk, os⟩ := s; obtain ⟨hl, h⟩ := h; have f1 := PySem.F.sub_bool_dict; have f2 := PySem.F.sub_dict_bool; wp_walk using wpAny_loadPart' hl, wpAny_load hl; exact ⟨_, rfl, h⟩
theorem rc_dbl {A : Around} {s : Shared} {l : Addr} {o : Obj} {es : Array DictEntry} {ep : Nat} (b : Bool) (ho : s.heap.get? l = some o) (hc : o.cls = .type "dict") (hd : o.data = .dict es ep) (hu : A.units < cLine) : RcAt A s (.ref l) (.bool b) false := fun prog w E Q h => by
  obtain ⟨oc, od, dt, os⟩ := o
  simp only at hc hd
  subst hc hd
  exact rc_eq_decline_or (k := false) ⟨_, ho, rfl⟩ (rfl) (by decide) PySem.F.sub_bool_dict PySem.F.slot_dict_eq PySem.F.slot_bool_eq_refl (fun _ q => call_meets PySem.F.slot_dict_eq ⟨_, ho, rfl⟩ PySem.F.entry_dict_eq (PySem.F.args_dict_eq_2 _ _) (dn_bl l es ep od os b) ⟨ho, q⟩) (fun _ q => call_meets PySem.F.slot_bool_eq_refl (rfl) PySem.F.entry_int_eq (PySem.F.args_int_eq_2 _ _) (nd_bl l es ep od os b) ⟨ho, q⟩) (fun _ q => wpAny_of_eq (rfl : isSame (.ref l) (.bool b) = pure false) q) (.inr hu) h
theorem eq_dbl {A : Around} {s : Shared} {l : Addr} {o : Obj} {es : Array DictEntry} {ep : Nat} (b : Bool) (ho : s.heap.get? l = some o) (hc : o.cls = .type "dict") (hd : o.data = .dict es ep) (hu : A.units < cLine) : EqAt A s (.ref l) (.bool b) false := 
  fun prog w E Q h => by
    unfold eqBool
    refine wpAny_holding (wpAny_ite_split (fun hab => absurd (eq_of_beq hab) nofun) fun _ => ?_)
    exact wpAny_bind (rc_dbl b ho hc hd hu prog w E _ (wpAny_truthy_bool h))
theorem rc_bld {A : Around} {s : Shared} {l : Addr} {o : Obj} {es : Array DictEntry} {ep : Nat} (b : Bool) (ho : s.heap.get? l = some o) (hc : o.cls = .type "dict") (hd : o.data = .dict es ep) (hu : A.units < cLine) : RcAt A s (.bool b) (.ref l) false := fun prog w E Q h => by
  obtain ⟨oc, od, dt, os⟩ := o
  simp only at hc hd
  subst hc hd
  exact rc_eq_decline_or (k := false) (rfl) ⟨_, ho, rfl⟩ (by decide) PySem.F.sub_dict_bool PySem.F.slot_bool_eq PySem.F.slot_dict_eq_refl (fun _ q => call_meets PySem.F.slot_bool_eq (rfl) PySem.F.entry_int_eq (PySem.F.args_int_eq_2 _ _) (nd_bl l es ep od os b) ⟨ho, q⟩) (fun _ q => call_meets PySem.F.slot_dict_eq_refl ⟨_, ho, rfl⟩ PySem.F.entry_dict_eq (PySem.F.args_dict_eq_2 _ _) (dn_bl l es ep od os b) ⟨ho, q⟩) (fun _ q => wpAny_of_eq (rfl : isSame (.bool b) (.ref l) = pure false) q) (.inr hu) h
theorem eq_bld {A : Around} {s : Shared} {l : Addr} {o : Obj} {es : Array DictEntry} {ep : Nat} (b : Bool) (ho : s.heap.get? l = some o) (hc : o.cls = .type "dict") (hd : o.data = .dict es ep) (hu : A.units < cLine) : EqAt A s (.bool b) (.ref l) false := 
  fun prog w E Q h => by
    unfold eqBool
    refine wpAny_holding (wpAny_ite_split (fun hab => absurd (eq_of_beq hab) nofun) fun _ => ?_)
    exact wpAny_bind (rc_bld b ho hc hd hu prog w E _ (wpAny_truthy_bool h))
theorem dn_int (l : Addr) (es : Array DictEntry) (ep : Nat) (dd : Option Addr) (sl : Array (Option Value)) (b : Int) (u : Tok) : Meets (Builtin.«dict.__eq__» ⟨[.ref l, .int b u], []⟩) (fun _ R s => (s.heap.get? l = some { cls := .type "dict", dict := dd, data := .dict es ep, slots := sl }) ∧ R (.ok (.ret .notImplemented)) s) :=
  .of_wp fun prog w A R s h => by obtain ⟨hp, g, d, tk, os⟩ := s; obtain ⟨hl, h⟩ := h; have f1 := PySem.F.sub_int_dict; have f2 := PySem.F.sub_dict_int; wp_walk using wpAny_loadPart' hl, wpAny_load hl; exact ⟨_, rfl, h⟩
theorem nd_int (l : Addr) (es : Array DictEntry) (ep : Nat) (dd : Option Addr) (sl : Array (Option Value)) (b : Int) (u : Tok) : Meets (Builtin.«int.__eq__» ⟨[.int b u, .ref l], []⟩) (fun _ R s => (s.heap.get? l = some { cls := .type "dict", dict := dd, data := .dict es ep, slots := sl }) ∧ R (.ok (.ret .notImplemented)) s) :=
  .of_wp fun prog w A R s h => by obtain ⟨hp, g, d, tk, os⟩ := s; obtain ⟨hl, h⟩ := h; have f1 := PySem.F.sub_int_dict; have f2 := PySem.F.sub_dict_int; wp_walk using wpAny_loadPart' hl, wpAny_load hl; exact ⟨_, rfl, h⟩
theorem rc_dint {A : Around} {s : Shared} {l : Addr} {o : Obj} {es : Array DictEntry} {ep : Nat} (b : Int) (u : Tok) (ho : s.heap.get? l = some o) (hc : o.cls = .type "dict") (hd : o.data = .dict es ep) (hu : A.units < cLine) : RcAt A s (.ref l) (.int b u) false := fun prog w E Q h => by
  obtain ⟨oc, od, dt, os⟩ := o
  simp only at hc hd
  subst hc hd
  exact rc_eq_decline_or (k := false) ⟨_, ho, rfl⟩ (typeIs_int s b u) (by decide) PySem.F.sub_int_dict PySem.F.slot_dict_eq PySem.F.slot_int_eq_refl (fun _ q => call_meets PySem.F.slot_dict_eq ⟨_, ho, rfl⟩ PySem.F.entry_dict_eq (PySem.F.args_dict_eq_2 _ _) (dn_int l es ep od os b u) ⟨ho, q⟩) (fun _ q => call_meets PySem.F.slot_int_eq_refl (typeIs_int s b u) PySem.F.entry_int_eq (PySem.F.args_int_eq_2 _ _) (nd_int l es ep od os b u) ⟨ho, q⟩) (fun _ q => wpAny_of_eq (rfl : isSame (.ref l) (.int b u) = pure false) q) (.inr hu) h
theorem eq_dint {A : Around} {s : Shared} {l : Addr} {o : Obj} {es : Array DictEntry} {ep : Nat} (b : Int) (u : Tok) (ho : s.heap.get? l = some o) (hc : o.cls = .type "dict") (hd : o.data = .dict es ep) (hu : A.units < cLine) : EqAt A s (.ref l) (.int b u) false := 
  fun prog w E Q h => by
    unfold eqBool
    refine wpAny_holding (wpAny_ite_split (fun hab => absurd (eq_of_beq hab) nofun) fun _ => ?_)
    exact wpAny_bind (rc_dint b u ho hc hd hu prog w E _ (wpAny_truthy_bool h))
theorem rc_intd {A : Around} {s : Shared} {l : Addr} {o : Obj} {es : Array DictEntry} {ep : Nat} (b : Int) (u : Tok) (ho : s.heap.get? l = some o) (hc : o.cls = .type "dict") (hd : o.data = .dict es ep) (hu : A.units < cLine) : RcAt A s (.int b u) (.ref l) false := fun prog w E Q h => by
  obtain ⟨oc, od, dt, os⟩ := o
  simp only at hc hd
  subst hc hd
  exact rc_eq_decline_or (k := false) (typeIs_int s b u) ⟨_, ho, rfl⟩ (by decide) PySem.F.sub_dict_int PySem.F.slot_int_eq PySem.F.slot_dict_eq_refl (fun _ q => call_meets PySem.F.slot_int_eq (typeIs_int s b u) PySem.F.entry_int_eq (PySem.F.args_int_eq_2 _ _) (nd_int l es ep od os b u) ⟨ho, q⟩) (fun _ q => call_meets PySem.F.slot_dict_eq_refl ⟨_, ho, rfl⟩ PySem.F.entry_dict_eq (PySem.F.args_dict_eq_2 _ _) (dn_int l es ep od os b u) ⟨ho, q⟩) (fun _ q => wpAny_of_eq (rfl : isSame (.int b u) (.ref l) = pure false) q) (.inr hu) h
theorem eq_intd {A : Around} {s : Shared} {l : Addr} {o : Obj} {es : Array DictEntry} {ep : Nat} (b : Int) (u : Tok) (ho : s.heap.get? l = some o) (hc : o.cls = .type "dict") (hd : o.data = .dict es ep) (hu : A.units < cLine) : EqAt A s (.int b u) (.ref l) false := 
  fun prog w E Q h => by
    unfold eqBool
    refine wpAny_holding (wpAny_ite_split (fun hab => absurd (eq_of_beq hab) nofun) fun _ => ?_)
    exact wpAny_bind (rc_intd b u ho hc hd hu prog w E _ (wpAny_truthy_bool h))
theorem dn_str (l : Addr) (es : Array DictEntry) (ep : Nat) (dd : Option Addr) (sl : Array (Option Value)) (b : Str) (u : Tok) : Meets (Builtin.«dict.__eq__» ⟨[.ref l, .str b u], []⟩) (fun _ R s => (s.heap.get? l = some { cls := .type "dict", dict := dd, data := .dict es ep, slots := sl }) ∧ R (.ok (.ret .notImplemented)) s) :=
  .of_wp fun prog w A R s h => by obtain ⟨hp, g, d, tk, os⟩ := s; obtain ⟨hl, h⟩ := h; have f1 := PySem.F.sub_str_dict; have f2 := PySem.F.sub_dict_str; wp_walk using wpAny_loadPart' hl, wpAny_load hl; exact ⟨_, rfl, h⟩
theorem nd_str (l : Addr) (es : Array DictEntry) (ep : Nat) (dd : Option Addr) (sl : Array (Option Value)) (b : Str) (u : Tok) : Meets (Builtin.«str.__eq__» ⟨[.str b u, .ref l], []⟩) (fun _ R s => (s.heap.get? l = some { cls := .type "dict", dict := dd, data := .dict es ep, slots := sl }) ∧ R (.ok (.ret .notImplemented)) s) :=
  .of_wp fun prog w A R s h => by obtain ⟨hp, g, d, tk, os⟩ := s; obtain ⟨hl, h⟩ := h; have f1 := PySem.F.sub_str_dict; have f2 := PySem.F.sub_dict_str; wp_walk using wpAny_loadPart' hl, wpAny_load hl; exact ⟨_, rfl, h⟩
theorem rc_dstr {A : Around} {s : Shared} {l : Addr} {o : Obj} {es : Array DictEntry} {ep : Nat} (b : Str) (u : Tok) (ho : s.heap.get? l = some o) (hc : o.cls = .type "dict") (hd : o.data = .dict es ep) (hu : A.units < cLine) : RcAt A s (.ref l) (.str b u) false := fun prog w E Q h => by
  obtain ⟨oc, od, dt, os⟩ := o
  simp only at hc hd
  subst hc hd
  exact rc_eq_decline_or (k := false) ⟨_, ho, rfl⟩ (typeIs_str s b u) (by decide) PySem.F.sub_str_dict PySem.F.slot_dict_eq PySem.F.slot_str_eq_refl (fun _ q => call_meets PySem.F.slot_dict_eq ⟨_, ho, rfl⟩ PySem.F.entry_dict_eq (PySem.F.args_dict_eq_2 _ _) (dn_str l es ep od os b u) ⟨ho, q⟩) (fun _ q => call_meets PySem.F.slot_str_eq_refl (typeIs_str s b u) PySem.F.entry_str_eq (PySem.F.args_str_eq_2 _ _) (nd_str l es ep od os b u) ⟨ho, q⟩) (fun _ q => wpAny_of_eq (rfl : isSame (.ref l) (.str b u) = pure false) q) (.inr hu) h
theorem eq_dstr {A : Around} {s : Shared} {l : Addr} {o : Obj} {es : Array DictEntry} {ep : Nat} (b : Str) (u : Tok) (ho : s.heap.get? l = some o) (hc : o.cls = .type "dict") (hd : o.data = .dict es ep) (hu : A.units < cLine) : EqAt A s (.ref l) (.str b u) false := 
  fun prog w E Q h => by
    unfold eqBool
    refine wpAny_holding (wpAny_ite_split (fun hab => absurd (eq_of_beq hab) nofun) fun _ => ?_)
    exact wpAny_bind (rc_dstr b u ho hc hd hu prog w E _ (wpAny_truthy_bool h))
theorem rc_strd {A : Around} {s : Shared} {l : Addr} {o : Obj} {es : Array DictEntry} {ep : Nat} (b : Str) (u : Tok) (ho : s.heap.get? l = some o) (hc : o.cls = .type "dict") (hd : o.data = .dict es ep) (hu : A.units < cLine) : RcAt A s (.str b u) (.ref l) false := fun prog w E Q h => by
  obtain ⟨oc, od, dt, os⟩ := o
  simp only at hc hd
  subst hc hd
  exact rc_eq_decline_or (k := false) (typeIs_str s b u) ⟨_, ho, rfl⟩ (by decide) PySem.F.sub_dict_str PySem.F.slot_str_eq PySem.F.slot_dict_eq_refl (fun _ q => call_meets PySem.F.slot_str_eq (typeIs_str s b u) PySem.F.entry_str_eq (PySem.F.args_str_eq_2 _ _) (nd_str l es ep od os b u) ⟨ho, q⟩) (fun _ q => call_meets PySem.F.slot_dict_eq_refl ⟨_, ho, rfl⟩ PySem.F.entry_dict_eq (PySem.F.args_dict_eq_2 _ _) (dn_str l es ep od os b u) ⟨ho, q⟩) (fun _ q => wpAny_of_eq (rfl : isSame (.str b u) (.ref l) = pure false) q) (.inr hu) h
theorem eq_strd {A : Around} {s : Shared} {l : Addr} {o : Obj} {es : Array DictEntry} {ep : Nat} (b : Str) (u : Tok) (ho : s.heap.get? l = some o) (hc : o.cls = .type "dict") (hd : o.data = .dict es ep) (hu : A.units < cLine) : EqAt A s (.str b u) (.ref l) false := 
  fun prog w E Q h => by
    unfold eqBool
    refine wpAny_holding (wpAny_ite_split (fun hab => absurd (eq_of_beq hab) nofun) fun _ => ?_)
    exact wpAny_bind (rc_strd b u ho hc hd hu prog w E _ (wpAny_truthy_bool h))
theorem dn_lst (l : Addr) (es : Array DictEntry) (ep : Nat) (dd : Option Addr) (sl : Array (Option Value)) (m : Addr) (its : Array Value) (n : Nat) (d2 : Option Addr) (s2 : Array (Option Value)) : Meets (Builtin.«dict.__eq__» ⟨[.ref l, .ref m], []⟩) (fun _ R s => (s.heap.get? l = some { cls := .type "dict", dict := dd, data := .dict es ep, slots := sl } ∧ s.heap.get? m = some { cls := .type "list", dict := d2, data := .seq its n, slots := s2 }) ∧ R (.ok (.ret .notImplemented)) s) :=
  .of_wp fun prog w A R s h => by obtain ⟨hp, g, d, tk, os⟩ := s; obtain ⟨⟨hl, hm⟩, h⟩ := h; have f1 := PySem.F.sub_list_dict; have f2 := PySem.F.sub_dict_list; wp_walk using wpAny_loadPart' hl, wpAny_load hl, wpAny_loadPart' hm, wpAny_load hm; exact ⟨_, rfl, h⟩
theorem nd_lst (l : Addr) (es : Array DictEntry) (ep : Nat) (dd : Option Addr) (sl : Array (Option Value)) (m : Addr) (its : Array Value) (n : Nat) (d2 : Option Addr) (s2 : Array (Option Value)) : Meets (Builtin.«list.__eq__» ⟨[.ref m, .ref l], []⟩) (fun _ R s => (s.heap.get? l = some { cls := .type "dict", dict := dd, data := .dict es ep, slots := sl } ∧ s.heap.get? m = some { cls := .type "list", dict := d2, data := .seq its n, slots := s2 }) ∧ R (.ok (.ret .notImplemented)) s) :=
  .of_wp fun prog w A R s h => by obtain ⟨hp, g, d, tk, os⟩ := s; obtain ⟨⟨hl, hm⟩, h⟩ := h; have f1 := PySem.F.sub_list_dict; have f2 := PySem.F.sub_dict_list; wp_walk using wpAny_loadPart' hl, wpAny_load hl, wpAny_loadPart' hm, wpAny_load hm; exact ⟨_, rfl, h⟩
theorem rc_dlst {A : Around} {s : Shared} {l : Addr} {o : Obj} {es : Array DictEntry} {ep : Nat} {om : Obj} {its : Array Value} {n : Nat} (m : Addr) (ho : s.heap.get? l = some o) (hc : o.cls = .type "dict") (hd : o.data = .dict es ep) (hm : s.heap.get? m = some om) (hmc : om.cls = .type "list") (hmd : om.data = .seq its n) (hu : A.units < cLine) : RcAt A s (.ref l) (.ref m) false := fun prog w E Q h => by
  obtain ⟨oc, od, dt, os⟩ := o
  simp only at hc hd
  subst hc hd
  obtain ⟨mc, d2, mt, s2⟩ := om
  simp only at hmc hmd
  subst hmc hmd
  have ne : l ≠ m := fun z => by
    subst z
    rw [ho] at hm
    exact absurd (congrArg Obj.cls (Option.some.inj hm)) (by simp)
  exact rc_eq_decline_or (k := false) ⟨_, ho, rfl⟩ (⟨_, hm, rfl⟩) (by decide) PySem.F.sub_list_dict PySem.F.slot_dict_eq PySem.F.slot_list_eq_refl (fun _ q => call_meets PySem.F.slot_dict_eq ⟨_, ho, rfl⟩ PySem.F.entry_dict_eq (PySem.F.args_dict_eq_2 _ _) (dn_lst l es ep od os m its n d2 s2) ⟨⟨ho, hm⟩, q⟩) (fun _ q => call_meets PySem.F.slot_list_eq_refl (⟨_, hm, rfl⟩) PySem.F.entry_list_eq (PySem.F.args_list_eq_2 _ _) (nd_lst l es ep od os m its n d2 s2) ⟨⟨ho, hm⟩, q⟩) (fun _ q => wpAny_isSame_ref_other ne ho hm (by simp) q) (.inr hu) h
theorem eq_dlst {A : Around} {s : Shared} {l : Addr} {o : Obj} {es : Array DictEntry} {ep : Nat} {om : Obj} {its : Array Value} {n : Nat} (m : Addr) (ho : s.heap.get? l = some o) (hc : o.cls = .type "dict") (hd : o.data = .dict es ep) (hm : s.heap.get? m = some om) (hmc : om.cls = .type "list") (hmd : om.data = .seq its n) (hu : A.units < cLine) : EqAt A s (.ref l) (.ref m) false := 
  .of_refs (fun z => by subst z; rw [ho] at hm; have e := Option.some.inj hm; subst e; rw [hc] at hmc; exact absurd hmc (by simp)) (rc_dlst m ho hc hd hm hmc hmd hu)
theorem rc_lstd {A : Around} {s : Shared} {l : Addr} {o : Obj} {es : Array DictEntry} {ep : Nat} {om : Obj} {its : Array Value} {n : Nat} (m : Addr) (ho : s.heap.get? l = some o) (hc : o.cls = .type "dict") (hd : o.data = .dict es ep) (hm : s.heap.get? m = some om) (hmc : om.cls = .type "list") (hmd : om.data = .seq its n) (hu : A.units < cLine) : RcAt A s (.ref m) (.ref l) false := fun prog w E Q h => by
  obtain ⟨oc, od, dt, os⟩ := o
  simp only at hc hd
  subst hc hd
  obtain ⟨mc, d2, mt, s2⟩ := om
  simp only at hmc hmd
  subst hmc hmd
  have ne : l ≠ m := fun z => by
    subst z
    rw [ho] at hm
    exact absurd (congrArg Obj.cls (Option.some.inj hm)) (by simp)
  exact rc_eq_decline_or (k := false) (⟨_, hm, rfl⟩) ⟨_, ho, rfl⟩ (by decide) PySem.F.sub_dict_list PySem.F.slot_list_eq PySem.F.slot_dict_eq_refl (fun _ q => call_meets PySem.F.slot_list_eq (⟨_, hm, rfl⟩) PySem.F.entry_list_eq (PySem.F.args_list_eq_2 _ _) (nd_lst l es ep od os m its n d2 s2) ⟨⟨ho, hm⟩, q⟩) (fun _ q => call_meets PySem.F.slot_dict_eq_refl ⟨_, ho, rfl⟩ PySem.F.entry_dict_eq (PySem.F.args_dict_eq_2 _ _) (dn_lst l es ep od os m its n d2 s2) ⟨⟨ho, hm⟩, q⟩) (fun _ q => wpAny_isSame_ref_other' ne.symm hm ho (by simp) q) (.inr hu) h
theorem eq_lstd {A : Around} {s : Shared} {l : Addr} {o : Obj} {es : Array DictEntry} {ep : Nat} {om : Obj} {its : Array Value} {n : Nat} (m : Addr) (ho : s.heap.get? l = some o) (hc : o.cls = .type "dict") (hd : o.data = .dict es ep) (hm : s.heap.get? m = some om) (hmc : om.cls = .type "list") (hmd : om.data = .seq its n) (hu : A.units < cLine) : EqAt A s (.ref m) (.ref l) false := 
  .of_refs (fun z => by subst z; rw [ho] at hm; have e := Option.some.inj hm; subst e; rw [hc] at hmc; exact absurd hmc (by simp)) (rc_lstd m ho hc hd hm hmc hmd hu)
theorem dn_tup (l : Addr) (es : Array DictEntry) (ep : Nat) (dd : Option Addr) (sl : Array (Option Value)) (m : Addr) (its : Array Value) (n : Nat) (d2 : Option Addr) (s2 : Array (Option Value)) : Meets (Builtin.«dict.__eq__» ⟨[.ref l, .ref m], []⟩) (fun _ R s => (s.heap.get? l = some { cls := .type "dict", dict := dd, data := .dict es ep, slots := sl } ∧ s.heap.get? m = some { cls := .type "tuple", dict := d2, data := .seq its n, slots := s2 }) ∧ R (.ok (.ret .notImplemented)) s) :=
  .of_wp fun prog w A R s h => by obtain ⟨hp, g, d, tk, os⟩ := s; obtain ⟨⟨hl, hm⟩, h⟩ := h; have f1 := PySem.F.sub_tuple_dict; have f2 := PySem.F.sub_dict_tuple; wp_walk using wpAny_loadPart' hl, wpAny_load hl, wpAny_loadPart' hm, wpAny_load hm; exact ⟨_, rfl, h⟩
theorem nd_tup (l : Addr) (es : Array DictEntry) (ep : Nat) (dd : Option Addr) (sl : Array (Option Value)) (m : Addr) (its : Array Value) (n : Nat) (d2 : Option Addr) (s2 : Array (Option Value)) : Meets (Builtin.«tuple.__eq__» ⟨[.ref m, .ref l], []⟩) (fun _ R s => (s.heap.get? l = some { cls := .type "dict", dict := dd, data := .dict es ep, slots := sl } ∧ s.heap.get? m = some { cls := .type "tuple", dict := d2, data := .seq its n, slots := s2 }) ∧ R (.ok (.ret .notImplemented)) s) :=
  .of_wp fun prog w A R s h => by obtain ⟨hp, g, d, tk, os⟩ := s; obtain ⟨⟨hl, hm⟩, h⟩ := h; have f1 := PySem.F.sub_tuple_dict; have f2 := PySem.F.sub_dict_tuple; wp_walk using wpAny_loadPart' hl, wpAny_load hl, wpAny_loadPart' hm, wpAny_load hm; exact ⟨_, rfl, h⟩
theorem rc_dtup {A : Around} {s : Shared} {l : Addr} {o : Obj} {es : Array DictEntry} {ep : Nat} {om : Obj} {its : Array Value} {n : Nat} (m : Addr) (ho : s.heap.get? l = some o) (hc : o.cls = .type "dict") (hd : o.data = .dict es ep) (hm : s.heap.get? m = some om) (hmc : om.cls = .type "tuple") (hmd : om.data = .seq its n) (hu : A.units < cLine) : RcAt A s (.ref l) (.ref m) false := fun prog w E Q h => by
  obtain ⟨oc, od, dt, os⟩ := o
  simp only at hc hd
  subst hc hd
  obtain ⟨mc, d2, mt, s2⟩ := om
  simp only at hmc hmd
  subst hmc hmd
  have ne : l ≠ m := fun z => by
    subst z
    rw [ho] at hm
    exact absurd (congrArg Obj.cls (Option.some.inj hm)) (by simp)
  exact rc_eq_decline_or (k := false) ⟨_, ho, rfl⟩ (⟨_, hm, rfl⟩) (by decide) PySem.F.sub_tuple_dict PySem.F.slot_dict_eq PySem.F.slot_tuple_eq_refl (fun _ q => call_meets PySem.F.slot_dict_eq ⟨_, ho, rfl⟩ PySem.F.entry_dict_eq (PySem.F.args_dict_eq_2 _ _) (dn_tup l es ep od os m its n d2 s2) ⟨⟨ho, hm⟩, q⟩) (fun _ q => call_meets PySem.F.slot_tuple_eq_refl (⟨_, hm, rfl⟩) PySem.F.entry_tuple_eq (PySem.F.args_tuple_eq_2 _ _) (nd_tup l es ep od os m its n d2 s2) ⟨⟨ho, hm⟩, q⟩) (fun _ q => wpAny_isSame_ref_other ne ho hm (by simp) q) (.inr hu) h
theorem eq_dtup {A : Around} {s : Shared} {l : Addr} {o : Obj} {es : Array DictEntry} {ep : Nat} {om : Obj} {its : Array Value} {n : Nat} (m : Addr) (ho : s.heap.get? l = some o) (hc : o.cls = .type "dict") (hd : o.data = .dict es ep) (hm : s.heap.get? m = some om) (hmc : om.cls = .type "tuple") (hmd : om.data = .seq its n) (hu : A.units < cLine) : EqAt A s (.ref l) (.ref m) false := 
  .of_refs (fun z => by subst z; rw [ho] at hm; have e := Option.some.inj hm; subst e; rw [hc] at hmc; exact absurd hmc (by simp)) (rc_dtup m ho hc hd hm hmc hmd hu)
theorem rc_tupd {A : Around} {s : Shared} {l : Addr} {o : Obj} {es : Array DictEntry} {ep : Nat} {om : Obj} {its : Array Value} {n : Nat} (m : Addr) (ho : s.heap.get? l = some o) (hc : o.cls = .type "dict") (hd : o.data = .dict es ep) (hm : s.heap.get? m = some om) (hmc : om.cls = .type "tuple") (hmd : om.data = .seq its n) (hu : A.units < cLine) : RcAt A s (.ref m) (.ref l) false := fun prog w E Q h => by
  obtain ⟨oc, od, dt, os⟩ := o
  simp only at hc hd
  subst hc hd
  obtain ⟨mc, d2, mt, s2⟩ := om
  simp only at hmc hmd
  subst hmc hmd
  have ne : l ≠ m := fun z => by
    subst z
    rw [ho] at hm
    exact absurd (congrArg Obj.cls (Option.some.inj hm)) (by simp)
  exact rc_eq_decline_or (k := false) (⟨_, hm, rfl⟩) ⟨_, ho, rfl⟩ (by decide) PySem.F.sub_dict_tuple PySem.F.slot_tuple_eq PySem.F.slot_dict_eq_refl (fun _ q => call_meets PySem.F.slot_tuple_eq (⟨_, hm, rfl⟩) PySem.F.entry_tuple_eq (PySem.F.args_tuple_eq_2 _ _) (nd_tup l es ep od os m its n d2 s2) ⟨⟨ho, hm⟩, q⟩) (fun _ q => call_meets PySem.F.slot_dict_eq_refl ⟨_, ho, rfl⟩ PySem.F.entry_dict_eq (PySem.F.args_dict_eq_2 _ _) (dn_tup l es ep od os m its n d2 s2) ⟨⟨ho, hm⟩, q⟩) (fun _ q => wpAny_isSame_ref_other' ne.symm hm ho (by simp) q) (.inr hu) h
theorem eq_tupd {A : Around} {s : Shared} {l : Addr} {o : Obj} {es : Array DictEntry} {ep : Nat} {om : Obj} {its : Array Value} {n : Nat} (m : Addr) (ho : s.heap.get? l = some o) (hc : o.cls = .type "dict") (hd : o.data = .dict es ep) (hm : s.heap.get? m = some om) (hmc : om.cls = .type "tuple") (hmd : om.data = .seq its n) (hu : A.units < cLine) : EqAt A s (.ref m) (.ref l) false := 
  .of_refs (fun z => by subst z; rw [ho] at hm; have e := Option.some.inj hm; subst e; rw [hc] at hmc; exact absurd hmc (by simp)) (rc_tupd m ho hc hd hm hmc hmd hu)
end Pz

set_option maxRecDepth 100000
set_option maxHeartbeats 4000000
/-! Pz, part 31: == of data where no two dicts meet. -/
namespace Pz
open PySem L2 PySem.Spec PyProof.Rows PySem.SeqAt
mutual
/-- no two dicts meet -/
def sf : PyData → PyData → Bool
  | .list xs, .list ys => decide (xs.length ≠ ys.length) || sfA xs ys
  | .tuple xs, .tuple ys => sfA xs ys
  | .dict xs, .dict ys => xs.isEmpty && ys.isEmpty
  | _, _ => true
def sfA : List PyData → List PyData → Bool
  | x :: xs, y :: ys => sf x y && sfA xs ys
  | _, _ => true
end
mutual
/-- == of data (two dicts: both empty) -/
def eqd : PyData → PyData → Bool
  | .list xs, .list ys => eqdA xs ys
  | .tuple xs, .tuple ys => eqdA xs ys
  | .dict xs, .dict ys => xs.isEmpty && ys.isEmpty
  | x, y => PyData.eqv x y
def eqdA : List PyData → List PyData → Bool
  | [], [] => true
  | x :: xs, y :: ys => eqd x y && eqdA xs ys
  | _, _ => false
end
def pairD (xs ys : List PyData) (j : Nat) : Bool := match xs[j]?, ys[j]? with
  | some x, some y => eqd x y
  | _, _ => true
theorem pairD_all : ∀ xs ys : List PyData, ((List.range (min xs.length ys.length)).all (pairD xs ys) && xs.length == ys.length) = eqdA xs ys
  | [], [] => rfl
  | [], _ :: _ => rfl
  | _ :: _, [] => rfl
  | x :: xs, y :: ys => by
    have ih := pairD_all xs ys
    have e : min (x :: xs).length (y :: ys).length = min xs.length ys.length + 1 := by simp only [List.length_cons]; omega
    have l : ((x :: xs).length == (y :: ys).length) = (xs.length == ys.length) := by simp
    rw [e, l, List.range_succ_eq_map, List.all_cons, List.all_map]
    have f : (pairD (x :: xs) (y :: ys) ∘ Nat.succ) = pairD xs ys := by
      funext j
      simp only [Function.comp, pairD, List.getElem?_cons_succ]
    rw [f, eqdA, ← ih, Bool.and_assoc]
    rfl
theorem pairD_same {xs ys : List PyData} (h : xs.length = ys.length) : (List.range xs.length).all (pairD xs ys) = eqdA xs ys := by
  have := pairD_all xs ys
  rw [h] at this
  rw [h]
  simpa using this
theorem pairD_other {xs ys : List PyData} (h : xs.length ≠ ys.length) : eqdA xs ys = false := by
  rw [← pairD_all xs ys]
  simp [h]
mutual
theorem eqd_plain : ∀ x y : PyData, x.plain = true → eqd x y = PyData.eqv x y
  | .list xs, .list ys, h => by
    rw [eqd, PyData.eqv]
    exact eqdA_plain xs ys (by simpa [PyData.plain] using h)
  | .tuple xs, .tuple ys, h => by
    rw [eqd, PyData.eqv]
    exact eqdA_plain xs ys (by simpa [PyData.plain] using h)
  | .dict _, _, h => by simp [PyData.plain] at h
  | .none, .none, _ => by simp [eqd]
  | .none, .bool _, _ => by simp [eqd]
  | .none, .int _, _ => by simp [eqd]
  | .none, .str _, _ => by simp [eqd]
  | .none, .list _, _ => by simp [eqd]
  | .none, .tuple _, _ => by simp [eqd]
  | .none, .dict _, _ => by simp [eqd]
  | .bool _, _, _ => by simp [eqd]
  | .int _, _, _ => by simp [eqd]
  | .str _, _, _ => by simp [eqd]
  | .list _, .none, _ => by simp [eqd]
  | .list _, .bool _, _ => by simp [eqd]
  | .list _, .int _, _ => by simp [eqd]
  | .list _, .str _, _ => by simp [eqd]
  | .list _, .tuple _, _ => by simp [eqd]
  | .list _, .dict _, _ => by simp [eqd]
  | .tuple _, .none, _ => by simp [eqd]
  | .tuple _, .bool _, _ => by simp [eqd]
  | .tuple _, .int _, _ => by simp [eqd]
  | .tuple _, .str _, _ => by simp [eqd]
  | .tuple _, .list _, _ => by simp [eqd]
  | .tuple _, .dict _, _ => by simp [eqd]
theorem eqdA_plain : ∀ xs ys : List PyData, PyData.plainAll xs = true → eqdA xs ys = PyData.eqvAll xs ys
  | [], [], _ => by simp [eqdA, PyData.eqvAll]
  | [], _ :: _, _ => by simp [eqdA, PyData.eqvAll]
  | _ :: _, [], _ => by simp [eqdA, PyData.eqvAll]
  | x :: xs, y :: ys, h => by
    have h' : x.plain = true ∧ PyData.plainAll xs = true := by simpa [PyData.plainAll] using h
    rw [eqdA, PyData.eqvAll, eqd_plain x y h'.1, eqdA_plain xs ys h'.2]
end
mutual
theorem sf_same {h : Heap} : ∀ (d d' : PyData) (v : Value) (as as' : List Addr), sf d d' = true → Reads h v d as → Reads h v d' as' → eqd d d' = true
  | .none, _, _, _, _, _, r, r' => by cases r; cases r'; simp [eqd, PyData.eqv]
  | .bool b, _, _, _, _, _, r, r' => by cases r; cases r'; simp [eqd, PyData.eqv]
  | .int i, _, _, _, _, _, r, r' => by cases r; cases r'; simp [eqd, PyData.eqv]
  | .str x, _, _, _, _, _, r, r' => by cases r; cases r'; simp [eqd, PyData.eqv]
  | .list xs, _, _, _, _, hs, r, r' => by
    cases r with
    | list h1 h2 h3 h4 =>
      cases r' with
      | list k1 k2 k3 k4 =>
        rw [h1] at k1; cases k1
        rw [h3] at k3; cases k3
        have e := (ReadsAll.length _ _ _ h4).symm.trans (ReadsAll.length _ _ _ k4)
        rw [sf, decide_eq_false (by simpa using e), Bool.false_or] at hs
        rw [eqd]
        exact sfA_same xs _ _ _ _ hs h4 k4
      | tuple k1 k2 k3 k4 => rw [h1] at k1; cases k1; rw [h2] at k2; exact absurd k2 (by simp)
      | dict k1 k2 k3 k4 k5 => rw [h1] at k1; cases k1; rw [h2] at k2; exact absurd k2 (by simp)
  | .tuple xs, _, _, _, _, hs, r, r' => by
    cases r with
    | tuple h1 h2 h3 h4 =>
      cases r' with
      | tuple k1 k2 k3 k4 =>
        rw [h1] at k1; cases k1
        rw [h3] at k3; cases k3
        rw [sf] at hs
        rw [eqd]
        exact sfA_same xs _ _ _ _ hs h4 k4
      | list k1 k2 k3 k4 => rw [h1] at k1; cases k1; rw [h2] at k2; exact absurd k2 (by simp)
      | dict k1 k2 k3 k4 k5 => rw [h1] at k1; cases k1; rw [h2] at k2; exact absurd k2 (by simp)
  | .dict _, _, _, _, _, hs, r, r' => by
    cases r with
    | dict h1 h2 h3 h4 h5 =>
      cases r' with
      | @dict a o es n kvs as bs k1 k2 k3 k4 k5 =>
        rw [sf, Bool.and_eq_true, List.isEmpty_iff, List.isEmpty_iff] at hs
        rw [hs.1, hs.2]
        simp [eqd]
      | list k1 k2 k3 k4 => rw [h1] at k1; cases k1; rw [h2] at k2; exact absurd k2 (by simp)
      | tuple k1 k2 k3 k4 => rw [h1] at k1; cases k1; rw [h2] at k2; exact absurd k2 (by simp)
theorem sfA_same {h : Heap} : ∀ (xs ys : List PyData) (vs : List Value) (as as' : List Addr), sfA xs ys = true → ReadsAll h vs xs as → ReadsAll h vs ys as' → eqdA xs ys = true
  | [], _, _, _, _, _, r, r' => by cases r; cases r'; simp [eqdA]
  | x :: xs, _, _, _, _, hs, r, r' => by
    cases r with
    | cons h1 h2 =>
      cases r' with
      | cons k1 k2 =>
        rw [sfA, Bool.and_eq_true] at hs
        rw [eqdA, sf_same x _ _ _ _ hs.1 h1 k1, sfA_same xs _ _ _ _ hs.2 h2 k2]; rfl
end
/-- unlike at the top, or both plain signs -/
def topA : PyData → PyData → Bool
  | .list _, .list _ => false
  | .tuple _, .tuple _ => false
  | .dict _, .dict _ => false
  | _, _ => true
theorem eq_top {A : Around} {s : Shared} {a b : Value} {as bs : List Addr} {da db : PyData} (ra : Reads s.heap a da as) (rb : Reads s.heap b db bs) (ht : topA da db = true) (hu : A.units + min da.depth db.depth < cLine) : EqAt A s a b (PyData.eqv da db) := by
  have hr := room_here hu
  cases ra with
  | none =>
    cases rb with
    | none => exact EqAt.same _
    | bool y => exact EqAt.none_bool  y
    | int y u => exact EqAt.none_int  y u
    | str y u => exact EqAt.none_str  y u
    | list k1 k2 k3 k4 => exact EqAt.none_list ⟨_, k1, k2, _, k3⟩ hr
    | tuple k1 k2 k3 k4 => exact EqAt.none_tuple ⟨_, k1, k2, _, k3⟩ hr
    | dict k1 k2 k3 k4 k5 => exact eq_nond  k1 k2 k3 hr
  | bool x =>
    cases rb with
    | none => exact EqAt.bool_none x 
    | bool y => exact EqAt.bool_bool x y
    | int y u => exact EqAt.bool_int x y u
    | str y u => exact EqAt.bool_str x y u
    | list k1 k2 k3 k4 => exact EqAt.bool_list x ⟨_, k1, k2, _, k3⟩ hr
    | tuple k1 k2 k3 k4 => exact EqAt.bool_tuple x ⟨_, k1, k2, _, k3⟩ hr
    | dict k1 k2 k3 k4 k5 => exact eq_bld x k1 k2 k3 hr
  | int x t =>
    cases rb with
    | none => exact EqAt.int_none x t 
    | bool y => exact EqAt.int_bool x t y
    | int y u => exact EqAt.int_int x t y u
    | str y u => exact EqAt.int_str x t y u
    | list k1 k2 k3 k4 => exact EqAt.int_list x t ⟨_, k1, k2, _, k3⟩ hr
    | tuple k1 k2 k3 k4 => exact EqAt.int_tuple x t ⟨_, k1, k2, _, k3⟩ hr
    | dict k1 k2 k3 k4 k5 => exact eq_intd x t k1 k2 k3 hr
  | str x t =>
    cases rb with
    | none => exact EqAt.str_none x t 
    | bool y => exact EqAt.str_bool x t y
    | int y u => exact EqAt.str_int x t y u
    | str y u => exact EqAt.str_str x t y u
    | list k1 k2 k3 k4 => exact EqAt.str_list x t ⟨_, k1, k2, _, k3⟩ hr
    | tuple k1 k2 k3 k4 => exact EqAt.str_tuple x t ⟨_, k1, k2, _, k3⟩ hr
    | dict k1 k2 k3 k4 k5 => exact eq_strd x t k1 k2 k3 hr
  | list h1 h2 h3 h4 =>
    cases rb with
    | none => exact EqAt.list_none ⟨_, h1, h2, _, h3⟩ hr
    | bool y => exact EqAt.list_bool y ⟨_, h1, h2, _, h3⟩ hr
    | int y u => exact EqAt.list_int y u ⟨_, h1, h2, _, h3⟩ hr
    | str y u => exact EqAt.list_str y u ⟨_, h1, h2, _, h3⟩ hr
    | list k1 k2 k3 k4 => cases ht
    | tuple k1 k2 k3 k4 => exact EqAt.list_tuple ⟨_, h1, h2, _, h3⟩ ⟨_, k1, k2, _, k3⟩ hr
    | dict k1 k2 k3 k4 k5 => exact eq_lstd _ k1 k2 k3 h1 h2 h3 hr
  | tuple h1 h2 h3 h4 =>
    cases rb with
    | none => exact EqAt.tuple_none ⟨_, h1, h2, _, h3⟩ hr
    | bool y => exact EqAt.tuple_bool y ⟨_, h1, h2, _, h3⟩ hr
    | int y u => exact EqAt.tuple_int y u ⟨_, h1, h2, _, h3⟩ hr
    | str y u => exact EqAt.tuple_str y u ⟨_, h1, h2, _, h3⟩ hr
    | list k1 k2 k3 k4 => exact EqAt.tuple_list ⟨_, h1, h2, _, h3⟩ ⟨_, k1, k2, _, k3⟩ hr
    | tuple k1 k2 k3 k4 => cases ht
    | dict k1 k2 k3 k4 k5 => exact eq_tupd _ k1 k2 k3 h1 h2 h3 hr
  | dict h1 h2 h3 h4 h5 =>
    cases rb with
    | none => exact eq_dnon  h1 h2 h3 hr
    | bool y => exact eq_dbl y h1 h2 h3 hr
    | int y u => exact eq_dint y u h1 h2 h3 hr
    | str y u => exact eq_dstr y u h1 h2 h3 hr
    | list k1 k2 k3 k4 => exact eq_dlst _ h1 h2 h3 k1 k2 k3 hr
    | tuple k1 k2 k3 k4 => exact eq_dtup _ h1 h2 h3 k1 k2 k3 hr
    | dict k1 k2 k3 k4 k5 => cases ht
theorem es_nil {h : Heap} {es : Array DictEntry} {as : List Addr} (r : ReadsAll h (es.toList.map (·.key)) (([] : List (PyData × PyData)).map (·.1)) as) : es = #[] := by
  have := ReadsAll.length _ _ _ r
  obtain ⟨l⟩ := es
  cases l with
  | nil => rfl
  | cons x xs => simp at this
theorem rc_dd {A : Around} {s : Shared} {a b : Addr} {oa ob : Obj} {n m : Nat} (ho : s.heap.get? a = some oa) (hc : oa.cls = .type "dict") (hd : oa.data = .dict #[] n) (ko : s.heap.get? b = some ob) (kc : ob.cls = .type "dict") (kd : ob.data = .dict #[] m)
    (ha : a ≠ sysModules) (hb : b ≠ sysModules) (hu : A.units < cLine) : RcAt A s (.ref a) (.ref b) true := fun prog w E Q h => by
  have ta : s.TypeIs (.ref a) "dict" := ⟨_, ho, hc⟩
  have tb : s.TypeIs (.ref b) "dict" := ⟨_, ko, kc⟩
  have ha' : (a == sysModules) = false := by simpa using ha
  have hb' : (b == sysModules) = false := by simpa using hb
  refine wpAny_richCompare_same_room (op := .Eq) ta tb PySem.F.slot_dict_eq (wpAny_call_entry PySem.F.slot_dict_eq ta PySem.F.entry_dict_eq ?_ (PySem.F.args_dict_eq_2 _ _)) hu
  show wpAny _ _ (Builtin.Dict.dictSlotArgs "__eq__" ⟨[.ref a, .ref b], []⟩ >>= _) _ _ s
  refine wpAny_bind ?_
  unfold Builtin.Dict.dictSlotArgs
  refine wpAny_bind (wpAny_notOrdered_dict ta ?_)
  show wpAny _ _ (pure (Value.ref a, Value.ref b)) _ _ s
  refine wpAny_pure ?_
  refine wpAny_bind (wpAny_isInstance (T := "dict") tb PySem.F.sub_dict_dict ?_)
  simp only [Bool.not_true, Bool.false_eq_true, if_false]
  refine wpAny_bind (wpAny_pure (wpAny_bind (wpAny_pure ?_)))
  refine wpAny_bind ?_
  unfold Builtin.Dict.samePairs Builtin.Dict.showsAll
  rw [if_neg (show ¬ (a == sysModules) = true by rw [ha']; exact Bool.false_ne_true), if_neg (show ¬ (b == sysModules) = true by rw [hb']; exact Bool.false_ne_true)]
  refine wpAny_bind (wpAny_pure (wpAny_bind (wpAny_pure ?_)))
  refine wpAny_bind (wpAny_dictEntries ho hd ?_)
  dsimp only
  refine wpAny_bind (wpAny_dictEntries ko kd ?_)
  rw [if_neg (by simp)]
  refine wpAny_bind (wpAny_dictEpoch ho hd ?_)
  refine wpAny_bind ?_
  rw [Std.Legacy.Range.forIn_eq_forIn_range']
  simp only [Std.Legacy.Range.size, Nat.sub_zero, Nat.add_sub_cancel, Nat.div_one]
  refine wpAny_forIn_list _ (fun rest q s' => s' = s ∧ q = (none, ()) ∧ rest = []) _ ?_ ?_ _ _ ⟨rfl, rfl, rfl⟩
  · rintro x rest q s' ⟨_, _, e⟩
    cases e
  · rintro q s' ⟨rfl, rfl, _⟩
    refine wpAny_pure ?_
    refine wpAny_pure ⟨_, rfl, ?_, ?_⟩
    · exact fun x => nomatch x
    · simpa using h
mutual
theorem eq_sf : ∀ (da db : PyData) (A : Around) (s : Shared) (a b : Value) (as bs : List Addr), Reads s.heap a da as → Reads s.heap b db bs → (∀ x ∈ as, x ≠ sysModules) → (∀ x ∈ bs, x ≠ sysModules) → sf da db = true → A.units + min da.depth db.depth < cLine → EqAt A s a b (eqd da db)
  | .list xs, .list ys, A, s, _, _, _, _, ra, rb, na, nb, hs, hu => by
    cases ra with
    | @list l o vs n _ as₁ h1 h2 h3 h4 =>
    cases rb with
    | @list l' o' vs' n' _ bs₁ k1 k2 k3 k4 =>
      by_cases z : l = l'
      · subst z
        rw [sf_same _ _ _ _ _ hs (.list h1 h2 h3 h4) (.list k1 k2 k3 k4)]
        exact EqAt.same _
      · have n1 : vs.size = xs.length := by simpa using ReadsAll.length _ _ _ h4
        have n2 : vs'.size = ys.length := by simpa using ReadsAll.length _ _ _ k4
        rw [eqd]
        by_cases e : vs.size = vs'.size
        · have hl : xs.length = ys.length := by omega
          rw [← pairD_same hl, ← n1]
          refine .of_refs z (RcAt.lists ⟨_, h1, h2, _, h3⟩ ⟨_, k1, k2, _, k3⟩ e (room_here hu) fun j j1 j2 => ?_)
          have hs' : sfA xs ys = true := by simpa [sf, hl] using hs
          have q := eq_sfA xs ys A.in1 s vs.toList vs'.toList _ _ h4 k4 (fun x hx => na x (by simp [hx])) (fun x hx => nb x (by simp [hx])) hs' (room_in hu) j (by simpa using j1) (by simpa using j2)
          rw [Array.getElem_toList, Array.getElem_toList] at q
          exact q
        · rw [pairD_other (by omega : xs.length ≠ ys.length)]
          exact .of_refs z (RcAt.lists_lengths ⟨_, h1, h2, _, h3⟩ ⟨_, k1, k2, _, k3⟩ (by simpa using e) (room_here hu))
  | .tuple xs, .tuple ys, A, s, _, _, _, _, ra, rb, na, nb, hs, hu => by
    cases ra with
    | @tuple l o vs n _ as₁ h1 h2 h3 h4 =>
    cases rb with
    | @tuple l' o' vs' n' _ bs₁ k1 k2 k3 k4 =>
      by_cases z : l = l'
      · subst z
        rw [sf_same _ _ _ _ _ hs (.tuple h1 h2 h3 h4) (.tuple k1 k2 k3 k4)]
        exact EqAt.same _
      · have n1 : vs.size = xs.length := by simpa using ReadsAll.length _ _ _ h4
        have n2 : vs'.size = ys.length := by simpa using ReadsAll.length _ _ _ k4
        rw [eqd, ← pairD_all xs ys, ← n1, ← n2]
        refine .of_refs z (RcAt.tuples ⟨_, h1, h2, _, h3⟩ ⟨_, k1, k2, _, k3⟩ (room_here hu) fun j j1 j2 => ?_)
        have q := eq_sfA xs ys A.in1 s vs.toList vs'.toList _ _ h4 k4 (fun x hx => na x (by simp [hx])) (fun x hx => nb x (by simp [hx])) (by simpa [sf] using hs) (room_in hu) j (by simpa using j1) (by simpa using j2)
        rw [Array.getElem_toList, Array.getElem_toList] at q
        exact q
  | .dict xs, .dict ys, A, s, _, _, _, _, ra, rb, na, nb, hs, hu => by
    rw [sf, Bool.and_eq_true, List.isEmpty_iff, List.isEmpty_iff] at hs
    obtain ⟨e1, e2⟩ := hs
    subst e1 e2
    have hev : eqd (.dict []) (.dict []) = true := by simp [eqd]
    rw [hev]
    cases ra with
    | @dict l o es n _ as₁ as₂ h1 h2 h3 h4 h5 =>
    cases rb with
    | @dict l' o' es' n' _ bs₁ bs₂ k1 k2 k3 k4 k5 =>
      by_cases z : l = l'
      · subst z; exact EqAt.same _
      · have q1 := es_nil h4
        have q2 := es_nil k4
        subst q1 q2
        exact .of_refs z (rc_dd h1 h2 h3 k1 k2 k3 (na _ (by simp)) (nb _ (by simp)) (room_here hu))
  | .none, _, _, _, _, _, _, _, ra, rb, _, _, _, hu => by simpa only [eqd] using eq_top ra rb rfl hu
  | .bool _, _, _, _, _, _, _, _, ra, rb, _, _, _, hu => by simpa only [eqd] using eq_top ra rb rfl hu
  | .int _, _, _, _, _, _, _, _, ra, rb, _, _, _, hu => by simpa only [eqd] using eq_top ra rb rfl hu
  | .str _, _, _, _, _, _, _, _, ra, rb, _, _, _, hu => by simpa only [eqd] using eq_top ra rb rfl hu
  | .list _, .none, _, _, _, _, _, _, ra, rb, _, _, _, hu => by simpa only [eqd] using eq_top ra rb rfl hu
  | .list _, .bool _, _, _, _, _, _, _, ra, rb, _, _, _, hu => by simpa only [eqd] using eq_top ra rb rfl hu
  | .list _, .int _, _, _, _, _, _, _, ra, rb, _, _, _, hu => by simpa only [eqd] using eq_top ra rb rfl hu
  | .list _, .str _, _, _, _, _, _, _, ra, rb, _, _, _, hu => by simpa only [eqd] using eq_top ra rb rfl hu
  | .list _, .tuple _, _, _, _, _, _, _, ra, rb, _, _, _, hu => by simpa only [eqd] using eq_top ra rb rfl hu
  | .list _, .dict _, _, _, _, _, _, _, ra, rb, _, _, _, hu => by simpa only [eqd] using eq_top ra rb rfl hu
  | .tuple _, .none, _, _, _, _, _, _, ra, rb, _, _, _, hu => by simpa only [eqd] using eq_top ra rb rfl hu
  | .tuple _, .bool _, _, _, _, _, _, _, ra, rb, _, _, _, hu => by simpa only [eqd] using eq_top ra rb rfl hu
  | .tuple _, .int _, _, _, _, _, _, _, ra, rb, _, _, _, hu => by simpa only [eqd] using eq_top ra rb rfl hu
  | .tuple _, .str _, _, _, _, _, _, _, ra, rb, _, _, _, hu => by simpa only [eqd] using eq_top ra rb rfl hu
  | .tuple _, .list _, _, _, _, _, _, _, ra, rb, _, _, _, hu => by simpa only [eqd] using eq_top ra rb rfl hu
  | .tuple _, .dict _, _, _, _, _, _, _, ra, rb, _, _, _, hu => by simpa only [eqd] using eq_top ra rb rfl hu
  | .dict _, .none, _, _, _, _, _, _, ra, rb, _, _, _, hu => by simpa only [eqd] using eq_top ra rb rfl hu
  | .dict _, .bool _, _, _, _, _, _, _, ra, rb, _, _, _, hu => by simpa only [eqd] using eq_top ra rb rfl hu
  | .dict _, .int _, _, _, _, _, _, _, ra, rb, _, _, _, hu => by simpa only [eqd] using eq_top ra rb rfl hu
  | .dict _, .str _, _, _, _, _, _, _, ra, rb, _, _, _, hu => by simpa only [eqd] using eq_top ra rb rfl hu
  | .dict _, .list _, _, _, _, _, _, _, ra, rb, _, _, _, hu => by simpa only [eqd] using eq_top ra rb rfl hu
  | .dict _, .tuple _, _, _, _, _, _, _, ra, rb, _, _, _, hu => by simpa only [eqd] using eq_top ra rb rfl hu
theorem eq_sfA : ∀ (xs ys : List PyData) (A : Around) (s : Shared) (vs ws : List Value) (as bs : List Addr), ReadsAll s.heap vs xs as → ReadsAll s.heap ws ys bs → (∀ x ∈ as, x ≠ sysModules) → (∀ x ∈ bs, x ≠ sysModules) → sfA xs ys = true → A.units + min (PyData.depthAll xs) (PyData.depthAll ys) < cLine →
    ∀ j (h1 : j < vs.length) (h2 : j < ws.length), EqAt A s vs[j] ws[j] (pairD xs ys j)
  | [], _, _, _, _, _, _, _, ra, _, _, _, _, _, j, h1, _ => by cases ra; exact absurd h1 (Nat.not_lt_zero _)
  | _ :: _, [], _, _, _, _, _, _, _, rb, _, _, _, _, j, _, h2 => by cases rb; exact absurd h2 (Nat.not_lt_zero _)
  | x :: xs, y :: ys, A, s, _, _, _, _, ra, rb, na, nb, hs, hu, j, h1, h2 => by
    rw [sfA, Bool.and_eq_true] at hs
    cases ra with
    | cons r rs =>
    cases rb with
    | cons q qs =>
      match j with
      | 0 => exact eq_sf x y A s _ _ _ _ r q (fun x hx => na x (by simp [hx])) (fun x hx => nb x (by simp [hx])) hs.1 (room_head hu)
      | j + 1 => exact eq_sfA xs ys A s _ _ _ _ rs qs (fun x hx => na x (by simp [hx])) (fun x hx => nb x (by simp [hx])) hs.2 (room_tail hu) j (Nat.lt_of_succ_lt_succ h1) (Nat.lt_of_succ_lt_succ h2)
end
end Pz

set_option maxRecDepth 100000
set_option maxHeartbeats 4000000
/-! Pz, part 32: ==, !=, in of data where no two dicts meet. -/
namespace Pz
open PySem L2 PySem.Spec PyProof.Rows PySem.SeqAt
theorem rc_sf {A : Around} {s : Shared} {a b : Value} {as bs : List Addr} {da db : PyData} (ra : Reads s.heap a da as) (rb : Reads s.heap b db bs) (na : ∀ x ∈ as, x ≠ sysModules) (nb : ∀ x ∈ bs, x ≠ sysModules) (hs : sf da db = true) (hu : A.units + min da.depth db.depth < cLine) : RcAt A s a b (eqd da db) := by
  have hr := room_here hu
  cases ra with
  | none =>
    cases rb with
    | none => exact RcAt.none_none  
    | bool y => exact RcAt.none_bool  y
    | int y u => exact RcAt.none_int  y u
    | str y u => exact RcAt.none_str  y u
    | list k1 k2 k3 k4 => exact RcAt.none_list ⟨_, k1, k2, _, k3⟩ hr
    | tuple k1 k2 k3 k4 => exact RcAt.none_tuple ⟨_, k1, k2, _, k3⟩ hr
    | dict k1 k2 k3 k4 k5 => exact rc_nond  k1 k2 k3 hr
  | bool x =>
    cases rb with
    | none => exact RcAt.bool_none x 
    | bool y => exact RcAt.bool_bool x y
    | int y u => exact RcAt.bool_int x y u
    | str y u => exact RcAt.bool_str x y u
    | list k1 k2 k3 k4 => exact RcAt.bool_list x ⟨_, k1, k2, _, k3⟩ hr
    | tuple k1 k2 k3 k4 => exact RcAt.bool_tuple x ⟨_, k1, k2, _, k3⟩ hr
    | dict k1 k2 k3 k4 k5 => exact rc_bld x k1 k2 k3 hr
  | int x t =>
    cases rb with
    | none => exact RcAt.int_none x t 
    | bool y => exact RcAt.int_bool x t y
    | int y u => exact RcAt.int_int x t y u
    | str y u => exact RcAt.int_str x t y u
    | list k1 k2 k3 k4 => exact RcAt.int_list x t ⟨_, k1, k2, _, k3⟩ hr
    | tuple k1 k2 k3 k4 => exact RcAt.int_tuple x t ⟨_, k1, k2, _, k3⟩ hr
    | dict k1 k2 k3 k4 k5 => exact rc_intd x t k1 k2 k3 hr
  | str x t =>
    cases rb with
    | none => exact RcAt.str_none x t 
    | bool y => exact RcAt.str_bool x t y
    | int y u => exact RcAt.str_int x t y u
    | str y u => exact RcAt.str_str x t y u
    | list k1 k2 k3 k4 => exact RcAt.str_list x t ⟨_, k1, k2, _, k3⟩ hr
    | tuple k1 k2 k3 k4 => exact RcAt.str_tuple x t ⟨_, k1, k2, _, k3⟩ hr
    | dict k1 k2 k3 k4 k5 => exact rc_strd x t k1 k2 k3 hr
  | @list l o vs n xs as₁ h1 h2 h3 h4 =>
    cases rb with
    | none => exact RcAt.list_none ⟨_, h1, h2, _, h3⟩ hr
    | bool y => exact RcAt.list_bool y ⟨_, h1, h2, _, h3⟩ hr
    | int y u => exact RcAt.list_int y u ⟨_, h1, h2, _, h3⟩ hr
    | str y u => exact RcAt.list_str y u ⟨_, h1, h2, _, h3⟩ hr
    | @list l' o' vs' n' ys bs₁ k1 k2 k3 k4 => 
      have n1 : vs.size = xs.length := by simpa using ReadsAll.length _ _ _ h4
      have n2 : vs'.size = ys.length := by simpa using ReadsAll.length _ _ _ k4
      rw [eqd]
      by_cases e : vs.size = vs'.size
      · have hl : xs.length = ys.length := by omega
        rw [← pairD_same hl, ← n1]
        refine RcAt.lists ⟨_, h1, h2, _, h3⟩ ⟨_, k1, k2, _, k3⟩ e hr fun j j1 j2 => ?_
        have q := eq_sfA xs ys A.in1 s vs.toList vs'.toList _ _ h4 k4 (fun x hx => na x (by simp [hx])) (fun x hx => nb x (by simp [hx])) (by simpa [sf, hl] using hs) (room_in hu) j (by simpa using j1) (by simpa using j2)
        rw [Array.getElem_toList, Array.getElem_toList] at q
        exact q
      · rw [pairD_other (by omega : xs.length ≠ ys.length)]
        exact RcAt.lists_lengths ⟨_, h1, h2, _, h3⟩ ⟨_, k1, k2, _, k3⟩ (by simpa using e) hr
    | tuple k1 k2 k3 k4 => exact RcAt.list_tuple ⟨_, h1, h2, _, h3⟩ ⟨_, k1, k2, _, k3⟩ hr
    | dict k1 k2 k3 k4 k5 => exact rc_lstd _ k1 k2 k3 h1 h2 h3 hr
  | @tuple l o vs n xs as₁ h1 h2 h3 h4 =>
    cases rb with
    | none => exact RcAt.tuple_none ⟨_, h1, h2, _, h3⟩ hr
    | bool y => exact RcAt.tuple_bool y ⟨_, h1, h2, _, h3⟩ hr
    | int y u => exact RcAt.tuple_int y u ⟨_, h1, h2, _, h3⟩ hr
    | str y u => exact RcAt.tuple_str y u ⟨_, h1, h2, _, h3⟩ hr
    | list k1 k2 k3 k4 => exact RcAt.tuple_list ⟨_, h1, h2, _, h3⟩ ⟨_, k1, k2, _, k3⟩ hr
    | @tuple l' o' vs' n' ys bs₁ k1 k2 k3 k4 => 
      have n1 : vs.size = xs.length := by simpa using ReadsAll.length _ _ _ h4
      have n2 : vs'.size = ys.length := by simpa using ReadsAll.length _ _ _ k4
      rw [eqd, ← pairD_all xs ys, ← n1, ← n2]
      refine RcAt.tuples ⟨_, h1, h2, _, h3⟩ ⟨_, k1, k2, _, k3⟩ hr fun j j1 j2 => ?_
      have q := eq_sfA xs ys A.in1 s vs.toList vs'.toList _ _ h4 k4 (fun x hx => na x (by simp [hx])) (fun x hx => nb x (by simp [hx])) (by simpa [sf] using hs) (room_in hu) j (by simpa using j1) (by simpa using j2)
      rw [Array.getElem_toList, Array.getElem_toList] at q
      exact q
    | dict k1 k2 k3 k4 k5 => exact rc_tupd _ k1 k2 k3 h1 h2 h3 hr
  | @dict l o es n xs as₁ as₂ h1 h2 h3 h4 h5 =>
    cases rb with
    | none => exact rc_dnon  h1 h2 h3 hr
    | bool y => exact rc_dbl y h1 h2 h3 hr
    | int y u => exact rc_dint y u h1 h2 h3 hr
    | str y u => exact rc_dstr y u h1 h2 h3 hr
    | list k1 k2 k3 k4 => exact rc_dlst _ h1 h2 h3 k1 k2 k3 hr
    | tuple k1 k2 k3 k4 => exact rc_dtup _ h1 h2 h3 k1 k2 k3 hr
    | @dict l' o' es' n' ys bs₁ bs₂ k1 k2 k3 k4 k5 =>
      rw [sf, Bool.and_eq_true, List.isEmpty_iff, List.isEmpty_iff] at hs
      obtain ⟨e1, e2⟩ := hs
      subst e1 e2
      have hev : eqd (.dict []) (.dict []) = true := by simp [eqd]
      rw [hev]
      have q1 := es_nil h4
      have q2 := es_nil k4
      subst q1 q2
      exact rc_dd h1 h2 h3 k1 k2 k3 (na _ (by simp)) (nb _ (by simp)) hr
theorem ne_lst {A : Around} {s : Shared} {a b : Value} {as bs : List Addr} {xs ys : List PyData} (ra : Reads s.heap a (.list xs) as) (rb : Reads s.heap b (.list ys) bs) (na : ∀ x ∈ as, x ≠ sysModules) (nb : ∀ x ∈ bs, x ≠ sysModules) (hs : sf (.list xs) (.list ys) = true) (hu : A.units + min (PyData.list xs).depth (PyData.list ys).depth < cLine) : RcNeAt A s a b (!eqd (.list xs) (.list ys)) := by
  have hr := room_here hu
  cases ra with
  | @list l o vs n _ as₁ h1 h2 h3 h4 =>
  cases rb with
  | @list l' o' vs' n' _ bs₁ k1 k2 k3 k4 =>
    have n1 : vs.size = xs.length := by simpa using ReadsAll.length _ _ _ h4
    have n2 : vs'.size = ys.length := by simpa using ReadsAll.length _ _ _ k4
    rw [eqd]
    by_cases e : vs.size = vs'.size
    · have hl : xs.length = ys.length := by omega
      rw [← pairD_same hl, ← n1]
      refine RcNeAt.lists ⟨_, h1, h2, _, h3⟩ ⟨_, k1, k2, _, k3⟩ e hr fun j j1 j2 => ?_
      have q := eq_sfA xs ys A.in1 s vs.toList vs'.toList _ _ h4 k4 (fun x hx => na x (by simp [hx])) (fun x hx => nb x (by simp [hx])) (by simpa [sf, hl] using hs) (room_in hu) j (by simpa using j1) (by simpa using j2)
      rw [Array.getElem_toList, Array.getElem_toList] at q
      exact q
    · rw [pairD_other (by omega : xs.length ≠ ys.length)]
      exact RcNeAt.lists_lengths ⟨_, h1, h2, _, h3⟩ ⟨_, k1, k2, _, k3⟩ (by simpa using e) hr
theorem ne_tup {A : Around} {s : Shared} {a b : Value} {as bs : List Addr} {xs ys : List PyData} (ra : Reads s.heap a (.tuple xs) as) (rb : Reads s.heap b (.tuple ys) bs) (na : ∀ x ∈ as, x ≠ sysModules) (nb : ∀ x ∈ bs, x ≠ sysModules) (hs : sf (.tuple xs) (.tuple ys) = true) (hu : A.units + min (PyData.tuple xs).depth (PyData.tuple ys).depth < cLine) : RcNeAt A s a b (!eqd (.tuple xs) (.tuple ys)) := by
  have hr := room_here hu
  cases ra with
  | @tuple l o vs n _ as₁ h1 h2 h3 h4 =>
  cases rb with
  | @tuple l' o' vs' n' _ bs₁ k1 k2 k3 k4 =>
    have n1 : vs.size = xs.length := by simpa using ReadsAll.length _ _ _ h4
    have n2 : vs'.size = ys.length := by simpa using ReadsAll.length _ _ _ k4
    rw [eqd, ← pairD_all xs ys, ← n1, ← n2]
    refine RcNeAt.tuples ⟨_, h1, h2, _, h3⟩ ⟨_, k1, k2, _, k3⟩ hr fun j j1 j2 => ?_
    have q := eq_sfA xs ys A.in1 s vs.toList vs'.toList _ _ h4 k4 (fun x hx => na x (by simp [hx])) (fun x hx => nb x (by simp [hx])) (by simpa [sf] using hs) (room_in hu) j (by simpa using j1) (by simpa using j2)
    rw [Array.getElem_toList, Array.getElem_toList] at q
    exact q
theorem ns_str (l : Addr) (es : Array DictEntry) (ep : Nat) (dd : Option Addr) (sl : Array (Option Value)) (b : Str) (u : Tok) : Meets (Builtin.«str.__ne__» ⟨[.str b u, .ref l], []⟩) (fun _ R s => (s.heap.get? l = some { cls := .type "dict", dict := dd, data := .dict es ep, slots := sl }) ∧ R (.ok (.ret .notImplemented)) s) :=
  .of_wp fun prog w A R s h => by obtain ⟨hp, g, d, tk, os⟩ := s; obtain ⟨hl, h⟩ := h; have f1 := PySem.F.sub_str_dict; have f2 := PySem.F.sub_dict_str; wp_walk using wpAny_loadPart' hl, wpAny_load hl; exact ⟨_, rfl, h⟩
theorem nq_str (l : Addr) (es : Array DictEntry) (ep : Nat) (dd : Option Addr) (sl : Array (Option Value)) (b : Str) (u : Tok) : Meets (Builtin.«dict.__ne__» ⟨[.ref l, .str b u], []⟩) (fun _ R s => (s.heap.get? l = some { cls := .type "dict", dict := dd, data := .dict es ep, slots := sl }) ∧ R (.ok (.ret .notImplemented)) s) :=
  .of_wp fun prog w A R s h => by obtain ⟨hp, g, d, tk, os⟩ := s; obtain ⟨hl, h⟩ := h; have f1 := PySem.F.sub_str_dict; have f2 := PySem.F.sub_dict_str; wp_walk using wpAny_loadPart' hl, wpAny_load hl; exact ⟨_, rfl, h⟩
theorem rn_strd {A : Around} {s : Shared} {l : Addr} {o : Obj} {es : Array DictEntry} {ep : Nat} (b : Str) (u : Tok) (ho : s.heap.get? l = some o) (hc : o.cls = .type "dict") (hd : o.data = .dict es ep) (hu : A.units < cLine) : RcNeAt A s (.str b u) (.ref l) true := fun prog w E Q h => by
  obtain ⟨oc, od, dt, os⟩ := o
  simp only at hc hd
  subst hc hd
  exact rc_ne_decline_or (k := false) (typeIs_str s b u) ⟨_, ho, rfl⟩ (by decide) PySem.F.sub_dict_str PySem.F.slot_str_ne PySem.F.slot_dict_ne_refl
    (fun _ q => call_meets PySem.F.slot_str_ne (typeIs_str s b u) PySem.F.entry_str_ne (PySem.F.args_str_ne_2 _ _) (ns_str l es ep od os b u) ⟨ho, q⟩)
    (fun _ q => call_meets PySem.F.slot_dict_ne_refl ⟨_, ho, rfl⟩ PySem.F.entry_dict_ne (PySem.F.args_dict_ne_2 _ _) (nq_str l es ep od os b u) ⟨ho, q⟩)
    (fun _ q => wpAny_of_eq (rfl : isSame (.str b u) (.ref l) = pure false) q) (.inr hu) h
/-- a text against anything -/
theorem ne_str {A : Around} {s : Shared} {b : Value} {x : Str} {t : Tok} {bs : List Addr} {db : PyData} (rb : Reads s.heap b db bs) (hu : A.units < cLine) : RcNeAt A s (.str x t) b (!eqd (.str x) db) := by
  cases rb with
  | none => simpa [eqd, PyData.eqv] using RcNeAt.str_none x t
  | bool y => simpa [eqd, PyData.eqv] using RcNeAt.str_bool x t y
  | int y u => simpa [eqd, PyData.eqv] using RcNeAt.str_int x t y u
  | str y u => simpa only [eqd, PyData.eqv] using RcNeAt.str_str x t y u
  | list k1 k2 k3 k4 => simpa [eqd, PyData.eqv] using RcNeAt.str_list x t ⟨_, k1, k2, _, k3⟩ hu
  | tuple k1 k2 k3 k4 => simpa [eqd, PyData.eqv] using RcNeAt.str_tuple x t ⟨_, k1, k2, _, k3⟩ hu
  | dict k1 k2 k3 k4 k5 => simpa [eqd, PyData.eqv] using rn_strd x t k1 k2 k3 hu
theorem reads_mem {h : Heap} : ∀ {xs : List PyData} {vs : List Value} {as : List Addr}, PyData.plainAll xs = true → ReadsAll h vs xs as → ∀ y ∈ vs, ∃ d cs, Reads h y d cs ∧ d ∈ xs ∧ d.plain = true ∧ d.depth ≤ PyData.depthAll xs ∧ ∀ b ∈ cs, b ∈ as
  | [], _, _, _, r, y, hy => by cases r; cases hy
  | x :: xs, _, _, hc, r, y, hy => by
    have h2 : x.plain = true ∧ PyData.plainAll xs = true := by simpa [PyData.plainAll] using hc
    cases r with
    | cons q1 q2 =>
      rcases List.mem_cons.mp hy with rfl | hy
      · exact ⟨x, _, q1, List.mem_cons_self, h2.1, Nat.le_max_left _ _, fun b hb => by simp [hb]⟩
      · obtain ⟨d, cs, e1, e2, e3, e4, e5⟩ := reads_mem h2.2 q2 y hy
        exact ⟨d, cs, e1, List.mem_cons_of_mem _ e2, e3, Nat.le_trans e4 (Nat.le_max_right _ _), fun b hb => by simp [e5 b hb]⟩
theorem items_sf {A : Around} {s : Shared} {vs : Array Value} {xs : List PyData} {as bs : List Addr} {x : Value} {d : PyData} (rs : ReadsAll s.heap vs.toList xs as) (rx : Reads s.heap x d bs) (na : ∀ x ∈ as, x ≠ sysModules) (nb : ∀ x ∈ bs, x ≠ sysModules) (hp : PyData.plainAll xs = true) (hs : xs.all (fun z => sf z d) = true) (hu : A.units + 1 + min (PyData.depthAll xs) d.depth < cLine) :
    ∀ y, y ∈ vs → EqAt A.in1 s y x (PyData.eqv (readOf s.heap y) d) := fun y hy => by
  have hm : y ∈ vs.toList := by simpa using hy
  obtain ⟨dy, cs, ry, hx, hc, hle, hsub⟩ := reads_mem hp rs y hm
  rw [readOf_plain hc ry, ← eqd_plain dy d hc]
  refine eq_sf dy d A.in1 s y x _ _ ry rx (fun b hb => na b (hsub b hb)) nb (List.all_eq_true.mp hs dy hx) ?_
  have : min dy.depth d.depth ≤ min (PyData.depthAll xs) d.depth := Nat.le_min.mpr ⟨Nat.le_trans (Nat.min_le_left _ _) hle, Nat.min_le_right _ _⟩
  show A.units + 1 + min dy.depth d.depth < cLine
  omega
end Pz

set_option maxRecDepth 100000
set_option maxHeartbeats 4000000
/-! Pz, part 5: comparisons, built-in functions. -/
namespace Pz
open PySem L2

def D.flat (d : D) : Bool := d.isD && d.py.plain
def D.eq (x y : D) : Bool := eqd x.py y.py
def okEq (x y : D) : Bool := x.isD && y.isD && sf x.py y.py && decide (min x.py.depth y.py.depth ≤ 60)
def okNe : D → D → Bool
  | .lst xs, .lst ys => okEq (.lst xs) (.lst ys)
  | .tup xs, .tup ys => okEq (.tup xs) (.tup ys)
  | .str _, y => y.isD
  | x, y => x.flat && y.flat && decide (min x.py.depth y.py.depth ≤ 60)
def fEq : F2 := fun x y R => okEq x y = true ∧ R (.d (.bl (x.eq y)))
def fNe : F2 := fun x y R => okNe x y = true ∧ R (.d (.bl (!x.eq y)))
def ltS (x y : Str) : Bool := decide (x.cps.toList < y.cps.toList)
def fLt : F2
  | .int i, .int j, R => R (.d (.bl (decide (i < j))))
  | .str x, .str y, R => R (.d (.bl (ltS x y)))
  | _, _, _ => False
def fLe : F2
  | .int i, .int j, R => R (.d (.bl (decide (i ≤ j))))
  | .str x, .str y, R => R (.d (.bl (!ltS y x)))
  | _, _, _ => False
def fGt : F2
  | .int i, .int j, R => R (.d (.bl (decide (j < i))))
  | .str x, .str y, R => R (.d (.bl (ltS y x)))
  | _, _, _ => False
def fGe : F2
  | .int i, .int j, R => R (.d (.bl (decide (j ≤ i))))
  | .str x, .str y, R => R (.d (.bl (!ltS x y)))
  | _, _, _ => False
def strIn (x z : Str) : Bool := match x.cps.toList with
  | [c] => decide (c ∈ z.cps.toList)
  | _ => !(Builtin.Str.occurrences z x 0 z.length 1).isEmpty
def inD (x : D) (xs : List D) : Bool := xs.any fun y => y.eq x
def okIn (x : D) (xs : List D) : Bool := x.isD && (D.pyL xs).all (fun z => sf z x.py) && D.isDL xs && PyData.plainAll (D.pyL xs) && decide (min (PyData.depthAll (D.pyL xs)) x.py.depth ≤ 60)
def hasK (ks : List Key) (k : Key) : Bool := ks.any fun j => decide (j = k)
def keyOf : D → Option Key
  | .int i => some (.inl i)
  | .str x => some (.inr x)
  | _ => none
def fIn (neg : Bool) : F2
  | x, .lst xs, R => okIn x xs = true ∧ R (.d (.bl (neg ^^ inD x xs)))
  | x, .tup xs, R => okIn x xs = true ∧ R (.d (.bl (neg ^^ inD x xs)))
  | .str x, .str z, R => R (.d (.bl (neg ^^ strIn x z)))
  | x, .dic ks _, R => ∃ k, keyOf x = some k ∧ R (.d (.bl (neg ^^ hasK ks k)))
  | _, _, _ => False
def D.isNon : D → Bool
  | .non => true
  | .cst w => decide (w = .non)
  | _ => false
def fIs (neg : Bool) : F2
  | x, .non, R => R (.d (.bl (neg ^^ x.isNon)))
  | .bl a, .bl b, R => R (.d (.bl (neg ^^ decide (a = b))))
  | _, _, _ => False
def fCmp : CmpOp → F2
  | .Eq => fEq
  | .NotEq => fNe
  | .Lt => fLt
  | .LtE => fLe
  | .Gt => fGt
  | .GtE => fGe
  | .Is => fIs false
  | .IsNot => fIs true
  | .In => fIn false
  | .NotIn => fIn true

section
variable {X : Cx}
/-- data in the heap, as the layer's rules read it -/
def rEqZ (K : PySem.W.Frag) (neg : Bool) : R2 := fun v u H Q => ∃ x y, Sys H ∧ Rp K H x v ∧ Rp K H y u ∧ (if neg then okNe x y else okEq x y) = true ∧ Q (.bl (neg ^^ x.eq y)) H
theorem op_eqZ (hu : X.A.units + 64 < cLine) : OpR X (compareOp .Eq) (rEqZ X.K false) := by
  intro pins s σ H v u v' u' Q I rv ru h
  obtain ⟨x, y, sy, hx, hy, ok, q⟩ := h
  simp only [Bool.false_eq_true, if_false, okEq, Bool.and_eq_true, decide_eq_true_eq] at ok
  obtain ⟨as, r1, na⟩ := Rp.reads I sy x v v' ok.1.1.1 hx rv
  obtain ⟨bs, r2, nb⟩ := Rp.reads I sy y u u' ok.1.1.2 hy ru
  exact rc_sf r1 r2 na nb ok.1.2 (by omega) X.prog X.w X.xe _ ⟨.bl _, H, I, by rw [Bool.false_xor]; rfl, q⟩
theorem op_neZ (hu : X.A.units + 64 < cLine) : OpR X (compareOp .NotEq) (rEqZ X.K true) := by
  intro pins s σ H v u v' u' Q I rv ru h
  obtain ⟨x, y, sy, hx, hy, ok, q⟩ := h
  rw [if_pos rfl] at ok
  have fin : EP X pins σ Q (.bool (!eqd x.py y.py)) s := ⟨.bl _, H, I, by rw [Bool.true_xor]; rfl, q⟩
  unfold okNe at ok
  split at ok
  · simp only [okEq, Bool.and_eq_true, decide_eq_true_eq] at ok
    obtain ⟨as, r1, na⟩ := Rp.reads I sy _ v v' ok.1.1.1 hx rv
    obtain ⟨bs, r2, nb⟩ := Rp.reads I sy _ u u' ok.1.1.2 hy ru
    simp only [D.py] at r1 r2 ok fin
    exact ne_lst r1 r2 na nb ok.1.2 (by omega) X.prog X.w X.xe _ fin
  · simp only [okEq, Bool.and_eq_true, decide_eq_true_eq] at ok
    obtain ⟨as, r1, na⟩ := Rp.reads I sy _ v v' ok.1.1.1 hx rv
    obtain ⟨bs, r2, nb⟩ := Rp.reads I sy _ u u' ok.1.1.2 hy ru
    simp only [D.py] at r1 r2 ok fin
    exact ne_tup r1 r2 na nb ok.1.2 (by omega) X.prog X.w X.xe _ fin
  · rename_i z
    obtain ⟨bs, r2, nb⟩ := Rp.reads I sy _ u u' ok hy ru
    cases (show v = .str z from hx)
    obtain ⟨t, rfl⟩ := rv
    simp only [D.py] at r2 fin
    exact ne_str r2 (by omega) X.prog X.w X.xe _ fin
  · simp only [D.flat, Bool.and_eq_true, decide_eq_true_eq] at ok
    obtain ⟨as, r1, na⟩ := Rp.reads I sy _ v v' ok.1.1.1 hx rv
    obtain ⟨bs, r2, nb⟩ := Rp.reads I sy _ u u' ok.1.2.1 hy ru
    rw [eqd_plain _ _ ok.1.1.2] at fin
    exact SeqAt.ne_plain r1 r2 ok.1.1.2 ok.1.2.2 (by omega) fin
theorem bin_eq (hu : X.A.units + 64 < cLine) : Bin X (compareOp .Eq) fEq := .of (op_eqZ hu) fun {Hs H x y v u R Q} e sy hx hy hf k =>
  ⟨x, y, sy, hx.rp e, hy.rp e, hf.1, by rw [Bool.false_xor]; exact k _ _ _ nr_bl hf.2⟩
theorem bin_ne (hu : X.A.units + 64 < cLine) : Bin X (compareOp .NotEq) fNe := .of (op_neZ hu) fun {Hs H x y v u R Q} e sy hx hy hf k =>
  ⟨x, y, sy, hx.rp e, hy.rp e, hf.1, by rw [Bool.true_xor]; exact k _ _ _ nr_bl hf.2⟩
theorem bin_lt : Bin X (compareOp .Lt) fLt := .of (op_lt.or op_lt_str) fun {Hs H x y v u R Q} e sy hx hy hf k => by
  cases x with
  | int i =>
    cases y with
    | int j => cases (show v = _ from hx); cases (show u = _ from hy); exact .inl ⟨i, j, rfl, rfl, k _ _ _ nr_bl hf⟩
    | _ => exact hf.elim
  | str i =>
    cases y with
    | str j => cases (show v = _ from hx); cases (show u = _ from hy); exact .inr ⟨i, j, rfl, rfl, k _ _ _ nr_bl hf⟩
    | _ => exact hf.elim
  | _ => cases y <;> exact hf.elim
theorem bin_le : Bin X (compareOp .LtE) fLe := .of (op_le.or op_le_str) fun {Hs H x y v u R Q} e sy hx hy hf k => by
  cases x with
  | int i =>
    cases y with
    | int j => cases (show v = _ from hx); cases (show u = _ from hy); exact .inl ⟨i, j, rfl, rfl, k _ _ _ nr_bl hf⟩
    | _ => exact hf.elim
  | str i =>
    cases y with
    | str j => cases (show v = _ from hx); cases (show u = _ from hy); exact .inr ⟨i, j, rfl, rfl, k _ _ _ nr_bl hf⟩
    | _ => exact hf.elim
  | _ => cases y <;> exact hf.elim
theorem bin_gt : Bin X (compareOp .Gt) fGt := .of (op_gt.or op_gt_str) fun {Hs H x y v u R Q} e sy hx hy hf k => by
  cases x with
  | int i =>
    cases y with
    | int j => cases (show v = _ from hx); cases (show u = _ from hy); exact .inl ⟨i, j, rfl, rfl, k _ _ _ nr_bl hf⟩
    | _ => exact hf.elim
  | str i =>
    cases y with
    | str j => cases (show v = _ from hx); cases (show u = _ from hy); exact .inr ⟨i, j, rfl, rfl, k _ _ _ nr_bl hf⟩
    | _ => exact hf.elim
  | _ => cases y <;> exact hf.elim
theorem bin_ge : Bin X (compareOp .GtE) fGe := .of (op_ge.or op_ge_str) fun {Hs H x y v u R Q} e sy hx hy hf k => by
  cases x with
  | int i =>
    cases y with
    | int j => cases (show v = _ from hx); cases (show u = _ from hy); exact .inl ⟨i, j, rfl, rfl, k _ _ _ nr_bl hf⟩
    | _ => exact hf.elim
  | str i =>
    cases y with
    | str j => cases (show v = _ from hx); cases (show u = _ from hy); exact .inr ⟨i, j, rfl, rfl, k _ _ _ nr_bl hf⟩
    | _ => exact hf.elim
  | _ => cases y <;> exact hf.elim
/-- in -/
def rInZ (K : PySem.W.Frag) (neg : Bool) : R2 := fun v u H Q => ∃ x xs, Sys H ∧ Rp K H x v ∧ (Rp K H (.lst xs) u ∨ Rp K H (.tup xs) u) ∧ okIn x xs = true ∧ Q (.bl (neg ^^ inD x xs)) H
theorem any_py (x : D) : ∀ xs : List D, PyData.plainAll (D.pyL xs) = true → ((D.pyL xs).any fun y => PyData.eqv y x.py) = inD x xs
  | [], _ => rfl
  | y :: ys, h => by
    have h2 : y.py.plain = true ∧ PyData.plainAll (D.pyL ys) = true := by simpa [D.pyL, PyData.plainAll] using h
    simp only [D.pyL, List.any_cons, any_py x ys h2.2, ← eqd_plain _ _ h2.1]
    rfl
theorem okIn_of {x : D} {xs : List D} (ok : okIn x xs = true) : x.isD = true ∧ (D.pyL xs).all (fun z => sf z x.py) = true ∧ D.isDL xs = true ∧ PyData.plainAll (D.pyL xs) = true ∧ min (PyData.depthAll (D.pyL xs)) x.py.depth ≤ 60 := by
  unfold okIn at ok
  rw [Bool.and_eq_true, Bool.and_eq_true, Bool.and_eq_true, Bool.and_eq_true, decide_eq_true_eq] at ok
  exact ⟨ok.1.1.1.1, ok.1.1.1.2, ok.1.1.2, ok.1.2, ok.2⟩
theorem op_inZ (hu : X.A.units + 64 < cLine) : OpR X (compareOp .In) (rInZ X.K false) := by
  intro pins s σ H v u v' u' Q I rv ru h
  obtain ⟨x, xs, sy, hx, hy, ok, q⟩ := h
  obtain ⟨o1, o2, o3, o4, o5⟩ := okIn_of ok
  obtain ⟨as, r1, na⟩ := Rp.reads I sy x v v' o1 hx rv
  have fin : ∀ b, b = ((D.pyL xs).any fun y => PyData.eqv y x.py) → EP X pins σ Q (.bool b) s := fun b e => ⟨.bl _, H, I, by rw [e, any_py _ _ o4, Bool.false_xor]; rfl, q⟩
  rcases hy with hy | hy
  · obtain ⟨bs, r2, nb⟩ := Rp.reads I sy (.lst xs) u u' (by simpa [D.isD] using o3) hy ru
    simp only [D.py] at r2
    cases r2 with
    | list h1 h2 h3 h4 => exact SeqAt.in_listAt _ ⟨_, h1, h2, _, h3⟩ (items_sf h4 r1 (fun x hx => nb x (by simp [hx])) na o4 o2 (by omega)) (by rw [SeqAt.any_plain h4 o4]; exact fin _ rfl)
  · obtain ⟨bs, r2, nb⟩ := Rp.reads I sy (.tup xs) u u' (by simpa [D.isD] using o3) hy ru
    simp only [D.py] at r2
    cases r2 with
    | tuple h1 h2 h3 h4 => exact SeqAt.in_tupleAt _ ⟨_, h1, h2, _, h3⟩ (items_sf h4 r1 (fun x hx => nb x (by simp [hx])) na o4 o2 (by omega)) (by rw [SeqAt.any_plain h4 o4]; exact fin _ rfl)
theorem op_ninZ (hu : X.A.units + 64 < cLine) : OpR X (compareOp .NotIn) (rInZ X.K true) := by
  intro pins s σ H v u v' u' Q I rv ru h
  obtain ⟨x, xs, sy, hx, hy, ok, q⟩ := h
  obtain ⟨o1, o2, o3, o4, o5⟩ := okIn_of ok
  obtain ⟨as, r1, na⟩ := Rp.reads I sy x v v' o1 hx rv
  have fin : ∀ b, b = (!(D.pyL xs).any fun y => PyData.eqv y x.py) → EP X pins σ Q (.bool b) s := fun b e => ⟨.bl _, H, I, by rw [e, any_py _ _ o4, Bool.true_xor]; rfl, q⟩
  rcases hy with hy | hy
  · obtain ⟨bs, r2, nb⟩ := Rp.reads I sy (.lst xs) u u' (by simpa [D.isD] using o3) hy ru
    simp only [D.py] at r2
    cases r2 with
    | list h1 h2 h3 h4 => exact SeqAt.notIn_listAt _ ⟨_, h1, h2, _, h3⟩ (items_sf h4 r1 (fun x hx => nb x (by simp [hx])) na o4 o2 (by omega)) (by rw [SeqAt.any_plain h4 o4]; exact fin _ rfl)
  · obtain ⟨bs, r2, nb⟩ := Rp.reads I sy (.tup xs) u u' (by simpa [D.isD] using o3) hy ru
    simp only [D.py] at r2
    cases r2 with
    | tuple h1 h2 h3 h4 => exact SeqAt.notIn_tupleAt _ ⟨_, h1, h2, _, h3⟩ (items_sf h4 r1 (fun x hx => nb x (by simp [hx])) na o4 o2 (by omega)) (by rw [SeqAt.any_plain h4 o4]; exact fin _ rfl)
/-- a text in a text -/
theorem op_inS' (neg : Bool) : OpR X (compareOp (if neg then .NotIn else .In)) (fun x y H Q => ∃ i j, x = .str i ∧ y = .str j ∧ Q (.bl (neg ^^ strIn i j)) H) := by
  intro pins s σ H x y v u Q I rx ry h
  obtain ⟨i, j, rfl, rfl, q⟩ := h
  have hs : (∃ c, i = ⟨#[c]⟩) ∨ strIn i j = !(Builtin.Str.occurrences j i 0 j.length 1).isEmpty := by
    unfold strIn
    split
    · rename_i c e
      left
      refine ⟨c, ?_⟩
      cases i with
      | mk a => rw [← Array.toArray_toList (xs := a), show a.toList = [c] from e]
    · right; rfl
  cases neg with
  | false =>
    rw [Bool.false_xor] at q
    rcases hs with ⟨c, rfl⟩ | hs
    · exact op_in_sign pins s σ H _ _ v u Q I rx ry ⟨c, j, rfl, rfl, q⟩
    · exact op_in_str pins s σ H _ _ v u Q I rx ry ⟨i, j, rfl, rfl, by rw [← hs]; exact q⟩
  | true =>
    rw [Bool.true_xor] at q
    rcases hs with ⟨c, rfl⟩ | hs
    · exact op_notIn_sign pins s σ H _ _ v u Q I rx ry ⟨c, j, rfl, rfl, q⟩
    · exact op_notin_str pins s σ H _ _ v u Q I rx ry ⟨i, j, rfl, rfl, by rw [← hs]; exact q⟩
theorem find_zip {k : Key} : ∀ {ks : List Key} {vs : List V}, ks.length = vs.length → (valV (ks.zip vs) k).isSome = hasK ks k
  | [], [], _ => by simp [valV, hasK]
  | j :: ks, v :: vs, e => by
    have ih := find_zip (k := k) (ks := ks) (vs := vs) (by simpa using e)
    rw [List.zip_cons_cons]
    by_cases z : j = k
    · rw [valV_pos (p := (j, v)) z]; simp [hasK, z]
    · rw [valV_neg (p := (j, v)) z, ih]; simp [hasK, z]
  | [], _ :: _, e => by simp at e
  | _ :: _, [], e => by simp at e
theorem keyOf_rp {K : PySem.W.Frag} {Hs H : Hp} {x : D} {v : V} {k : Key} (h : keyOf x = some k) (hx : Rt K Hs H x v) : v = kV k := by
  cases x with
  | int i => cases h; exact hx
  | str i => cases h; exact hx
  | _ => cases h
theorem op_inK (neg : Bool) (hu : X.A.units + 1 < cLine) : OpR X (compareOp (if neg then .NotIn else .In)) (fun x y H Q => ∃ a k kvs, x = kV k ∧ y = .ref a ∧ H a = some (.dK kvs) ∧ Q (.bl (neg ^^ (valV kvs k).isSome)) H) := by
  intro pins s σ H x y v u Q I rx ry h
  obtain ⟨a, k, kvs, rfl, rfl, ha, q⟩ := h
  cases ry
  cases neg with
  | false => exact d_in hu I (DGet.k (k := k) ha) rx fun s' I' => ⟨.bl _, H, I', by rw [Bool.false_xor]; rfl, q⟩
  | true => exact d_notIn hu I (DGet.k (k := k) ha) rx fun s' I' => ⟨.bl _, H, I', by rw [Bool.true_xor]; rfl, q⟩
theorem bin_in (hu : X.A.units + 64 < cLine) : ∀ neg, Bin X (compareOp (if neg then .NotIn else .In)) (fIn neg) := fun neg => by
  have o1 : OpR X (compareOp (if neg then .NotIn else .In)) (rInZ X.K neg) := by
    cases neg with
    | false => exact op_inZ hu
    | true => exact op_ninZ hu
  refine .of (o1.or ((op_inS' neg).or (op_inK neg (by omega)))) fun {Hs H x y v u R Q} e sy hx hy hf k => ?_
  have go : ∀ {xs : List D}, y = .lst xs ∨ y = .tup xs → okIn x xs = true ∧ R (.d (.bl (neg ^^ inD x xs))) → rInZ X.K neg v u H Q := fun {xs} hz hf => by
    refine ⟨x, xs, sy, hx.rp e, ?_, hf.1, k _ _ _ nr_bl hf.2⟩
    rcases hz with rfl | rfl
    · exact .inl (hy.rp e)
    · exact .inr (hy.rp e)
  cases y with
  | lst xs => exact .inl (go (.inl rfl) (by cases x <;> exact hf))
  | tup xs => exact .inl (go (.inr rfl) (by cases x <;> exact hf))
  | str z =>
    cases x with
    | str i => cases (show v = _ from hx); cases (show u = _ from hy); exact .inr (.inl ⟨i, z, rfl, rfl, k _ _ _ nr_bl hf⟩)
    | _ => exact hf.elim
  | dic ks ys =>
    have hf' : ∃ k, keyOf x = some k ∧ R (.d (.bl (neg ^^ hasK ks k))) := by cases x <;> exact hf
    obtain ⟨kk, h1, h2⟩ := hf'
    obtain ⟨a, vs, rfl, h3, h4, h5⟩ := hy
    refine .inr (.inr ⟨a, kk, _, keyOf_rp h1 hx, rfl, h3, ?_⟩)
    rw [find_zip (h4.trans h5.length)]
    exact k _ _ _ nr_bl h2
  | _ => cases x <;> exact hf.elim
theorem bin_is : ∀ neg, Bin X (compareOp (if neg then .IsNot else .Is)) (fIs neg) := fun neg => by
  have o1 : OpR X (compareOp (if neg then .IsNot else .Is)) (fun x y H Q => y = .non ∧ Q (.bl (neg ^^ decide (x = .non))) H) := by
    cases neg with
    | false => exact Pz.OpR.weak op_isN fun x y H Q q => by simpa using q
    | true => exact Pz.OpR.weak op_notN fun x y H Q q => by simpa using q
  have o2 : OpR X (compareOp (if neg then .IsNot else .Is)) (fun x y H Q => ∃ a b : Bool, x = .bl a ∧ y = .bl b ∧ Q (.bl (neg ^^ decide (a = b))) H) := by
    cases neg with
    | false => exact Pz.OpR.weak op_isBl fun x y H Q ⟨a, b, h1, h2, q⟩ => ⟨a, b, h1, h2, by simpa using q⟩
    | true => exact Pz.OpR.weak op_notBl fun x y H Q ⟨a, b, h1, h2, q⟩ => ⟨a, b, h1, h2, by simpa using q⟩
  refine .of (o1.or o2) fun {Hs H x y v u R Q} e sy hx hy hf k => ?_
  cases y with
  | non =>
    cases (show u = _ from hy)
    refine .inl ⟨rfl, ?_⟩
    have e2 : decide (v = V.non) = x.isNon := by
      cases x with
      | non => cases (show v = _ from hx); rfl
      | bl b => cases (show v = _ from hx); rfl
      | int b => cases (show v = _ from hx); rfl
      | str b => cases (show v = _ from hx); rfl
      | lst _ => obtain ⟨a, _, rfl, _⟩ := hx; rfl
      | tup _ => obtain ⟨a, _, rfl, _⟩ := hx; rfl
      | dic _ _ => obtain ⟨a, _, rfl, _⟩ := hx; rfl
      | dit _ _ => obtain ⟨a, _, rfl, _⟩ := hx; rfl
      | ins _ _ _ => obtain ⟨a, _, _, rfl, _⟩ := hx; rfl
      | cst w => cases (show v = _ from hx); rfl
    rw [e2]
    refine k _ _ _ nr_bl ?_
    cases x <;> exact hf
  | bl b =>
    cases x with
    | bl a => cases (show v = _ from hx); cases (show u = _ from hy); exact .inr ⟨a, b, rfl, rfl, k _ _ _ nr_bl hf⟩
    | _ => exact hf.elim
  | _ => cases x <;> exact hf.elim
end
end Pz

set_option maxRecDepth 100000
set_option maxHeartbeats 4000000
/-! Pz, part 33: sorted tuples whose items are alike as far as they are looked at. -/
namespace Pz
open PySem L2 PySem.W PyProof.Rows PySem.Calls

/-- alike up to the first place that differs -/
def alL : List PyData → List PyData → Bool
  | x :: xs, y :: ys => alike x y && (!PyData.eqv x y || alL xs ys)
  | _, _ => true
def AllL (ds : List PyData) : Prop := (∀ d ∈ ds, ∃ x r, d = .tuple (x :: r)) ∧ ∀ xs ys, .tuple xs ∈ ds → .tuple ys ∈ ds → alL xs ys = true
theorem alL_cons {x y : PyData} {xs ys : List PyData} (h : alL (x :: xs) (y :: ys) = true) : alike x y = true ∧ (PyData.eqv x y = true → alL xs ys = true) := by
  simp only [alL, Bool.and_eq_true, Bool.or_eq_true, Bool.not_eq_true'] at h
  refine ⟨h.1, fun e => ?_⟩
  rcases h.2 with z | z
  · rw [e] at z; cases z
  · exact z
theorem alL_unique {h : Heap} : ∀ (xs ys : List PyData) (vs : List Value) (as as' : List Addr), alL xs ys = true → ReadsAll h vs xs as → ReadsAll h vs ys as' → xs = ys
  | [], _, _, _, _, _, r, r' => by cases r; cases r'; rfl
  | x :: xs, [], _, _, _, _, r, r' => by cases r'; cases r
  | x :: xs, y :: ys, _, _, _, ha, r, r' => by
    obtain ⟨a1, a2⟩ := alL_cons ha
    cases r with
    | cons h1 h2 =>
      cases r' with
      | cons k1 k2 =>
        have e := alike_unique x y _ _ _ a1 h1 k1
        subst e
        rw [alL_unique xs ys _ _ _ (a2 (eqv_refl_alike x a1)) h2 k2]
theorem AllL.unique {h : Heap} {ds : List PyData} (hal : AllL ds) {d d' : PyData} {v : Value} {as as' : List Addr} (m : d ∈ ds) (m' : d' ∈ ds) (r : Reads h v d as) (r' : Reads h v d' as') : d = d' := by
  obtain ⟨x, t, rfl⟩ := hal.1 d m
  obtain ⟨x', t', rfl⟩ := hal.1 d' m'
  have a := hal.2 _ _ m m'
  cases r with
  | tuple h1 h2 h3 h4 =>
    cases r' with
    | tuple k1 k2 k3 k4 =>
      rw [h1] at k1; cases k1
      rw [h3] at k3; cases k3
      rw [alL_unique _ _ _ _ _ a h4 k4]
theorem kindL_some {h : Heap} {ds : List PyData} (hal : AllL ds) {v : Value} {d : PyData} {as : List Addr} (hd : d ∈ ds) (r : Reads h v d as) : (dataKind h ds).keyOf v = some (keyToks d) := by
  have q : ∃ d, d ∈ ds ∧ ∃ as, Reads h v d as := ⟨d, hd, as, r⟩
  have e : (dataKind h ds).keyOf v = some (keyToks q.choose) := by
    show (open Classical in if q : ∃ d, d ∈ ds ∧ ∃ as, Reads h v d as then some (keyToks q.choose) else none) = _
    rw [dif_pos q]
  obtain ⟨h1, as', h2⟩ := q.choose_spec
  rw [e, hal.unique h1 hd h2 r]
section
variable {prog : Program} {w : World} {A : Around} {E : Value → Shared → Prop} {s : Shared}
theorem katLexL {b fin : Bool} {Q : Bool → Shared → Prop} : ∀ (xs ys : List PyData) (i : Nat) (vs ws : List Value) (as bs : List Addr), ReadsAll s.heap vs xs as → ReadsAll s.heap ws ys bs → alL xs ys = true →
    A.units + min (PyData.depthAll xs) (PyData.depthAll ys) < cLine → (b = true → i = 0 → ∀ x r t, xs = x :: r → x ≠ .tuple t) → fin = decide (xs.length < ys.length) → Q (PyProof.Rows.lexLt itemOrd (keyToksAll xs) (keyToksAll ys)) s → KatLex prog w A b fin Q (vs.zip ws) i s
  | [], [], i, _, _, _, _, ra, rb, _, hu, hb, hf, hq => katLex_alike [] [] i _ _ _ _ ra rb rfl hu hb hf hq
  | [], y :: ys, i, _, _, _, _, ra, rb, _, hu, hb, hf, hq => katLex_alike [] (y :: ys) i _ _ _ _ ra rb (by simp [alikeAll]) hu hb hf hq
  | x :: xs, [], i, _, _, _, _, ra, rb, _, hu, hb, hf, hq => katLex_alike (x :: xs) [] i _ _ _ _ ra rb (by simp [alikeAll]) hu hb hf hq
  | x :: xs, y :: ys, i, _, _, _, _, ra, rb, h, hu, hb, hf, hq => by
    obtain ⟨h1, h2⟩ := alL_cons h
    have hf' : fin = decide (xs.length < ys.length) := by
      rw [hf]
      simp only [List.length_cons, Nat.add_lt_add_iff_right]
    cases ra with
    | cons r rs =>
      cases rb with
      | cons r' rs' =>
        rw [List.zip_cons_cons]
        refine kat_cons (eqAt_alike x y A s _ _ _ _ r r' h1 (SeqAt.room_head hu) prog w _ _ ?_)
        cases hx : PyData.eqv x y with
        | true =>
          rw [dataLt_all_yes h1 hx] at hq
          exact kat_yes (katLexL xs ys (i + 1) _ _ _ _ rs rs' (h2 hx) (SeqAt.room_tail hu) (fun _ hi => absurd hi (Nat.succ_ne_zero i)) hf' hq)
        | false =>
          rw [dataLt_all_no h1 hx] at hq
          refine kat_no (oneLt_alike (fun hbi t => ?_) r r' h1 (ne_none_of h1 hx) (SeqAt.room_head hu) hq)
          rw [Bool.and_eq_true] at hbi
          exact hb hbi.1 (by simpa using hbi.2) x xs t rfl
theorem sortsL {vs : List Value} {ds : List PyData} (e : EachIs (fun v d => ∃ as, Reads s.heap v d as) vs ds) (hal : AllL ds) (hu : ∀ d, d ∈ ds → A.units + d.depth < cLine) : SortsAt prog w A s (dataKind s.heap ds) vs := by
  have room : ∀ {d d' : PyData}, d ∈ ds → A.units + min d.depth d'.depth < cLine := fun {d d'} hd => Nat.lt_of_le_of_lt (Nat.add_le_add_left (Nat.min_le_left _ _) _) (hu d hd)
  have ht := hal.1
  refine ⟨fun v hv => ?_, ?_⟩
  · obtain ⟨d, hd, as, r⟩ := e.left v hv
    exact ⟨_, kindL_some hal hd r⟩
  · cases ds with
      | nil =>
        cases e
        exact ⟨general', fun E x y a b Q ha _ _ => (by
          obtain ⟨d, _, hd, _⟩ := dataKind_inv ha
          exact absurd hd (by simp)), fun h2 => absurd h2 (by simp)⟩
      | cons d₀ ds₀ =>
        obtain ⟨x₀, r₀, e₀⟩ := ht d₀ (List.mem_cons_self ..)
        have hfirst : ∀ x r, PyData.tuple (x :: r) ∈ d₀ :: ds₀ → alike x x₀ = true := by
          intro x r hm
          exact (alL_cons (hal.2 _ _ hm (by rw [← e₀]; exact List.mem_cons_self ..))).1
        refine ⟨tuples' (dataType x₀ != Value.type "tuple"), ?_, fun h2 E Q hq => ?_⟩
        · intro E x y a b Q ha hb hq
          obtain ⟨d, as, hd, ra, rfl⟩ := dataKind_inv ha
          obtain ⟨d', as', hd', rb, rfl⟩ := dataKind_inv hb
          have hroom := room (d' := d') hd
          obtain ⟨x1, r1, rfl⟩ := ht d hd
          obtain ⟨x2, r2, rfl⟩ := ht d' hd'
          have hdd := hal.2 _ _ hd hd'
          have hq' : Q (dataLt (.tuple (x1 :: r1)) (.tuple (x2 :: r2))) s := hq
          rw [dataLt_tuple] at hq'
          cases ra with
          | @tuple l o xs n _ _ h1 h2 h3 h4 =>
            cases rb with
            | @tuple l' o' xs' n' _ _ k1 k2 k3 k4 =>
              have n1 : xs.size = (x1 :: r1).length := by simpa using SeqAt.ReadsAll.length _ _ _ h4
              have n2 : xs'.size = (x2 :: r2).length := by simpa using SeqAt.ReadsAll.length _ _ _ k4
              refine kat_lt h1 h3 k1 k3 (katLexL (x1 :: r1) (x2 :: r2) 0 _ _ _ _ h4 k4 hdd (by have q := SeqAt.room_in hroom; omega) (fun hb _ x r t ex => ?_) (by rw [n1, n2]) hq')
              obtain ⟨rfl, rfl⟩ := List.cons.inj ex
              have q := dataType_alike (hfirst _ _ hd)
              rw [← q] at hb
              exact dataType_tuple hb t
        · obtain ⟨fs, t1, t2, t3⟩ := each_katTups e ht
          refine kat_kind (T := dataType x₀) t1 (by omega) (fun f hf => ?_) (beq_self_eq_true _) hq
          obtain ⟨x, r, as, m1, m2⟩ := t3 f hf
          rw [← dataType_alike (hfirst x r m1)]
          exact looks_reads m2
theorem each_keysL {h : Heap} {ds : List PyData} (hal : AllL ds) {vs : List Value} (e : EachIs (fun v d => ∃ as, Reads h v d as) vs ds) : EachIs (fun v d => (dataKind h ds).keyOf v = some (keyToks d)) vs ds :=
  (each_mem e).mono fun _ _ ⟨⟨_, r⟩, hd⟩ => kindL_some hal hd r
theorem sorted_dataL {β : Type} {vs : List Value} {bs : List β} {enc : β → PyData} {R : Value → β → Prop} {l : Addr} {Q : Value → Shared → Prop} (hl : s.heap.IsList l vs.toArray) (e : EachIs R vs bs) (er : EachIs (fun v b => ∃ as, Reads s.heap v (enc b) as) vs bs) (hal : AllL (bs.map enc)) (hL : bs.length ≤ sizeLine)
    (hu : ∀ b, b ∈ bs → A.units + 2 + (enc b).depth < cLine) (h : ∀ out, out.length = bs.length → EachIs R out (bs.mergeSort (dataLe false enc)) → Q (.ref (s.heap.objs.size + 1)) { s with heap := sortedAll s.heap vs (List.toArray out) }) :
    wpAny (model prog w) A (call (.builtin "sorted") [.ref l]) Q E s := by
  have er' : EachIs (fun v b => ∃ as, Reads (sortingHeap (copyHeap s.heap vs) (s.heap.objs.size + 1) vs) v (enc b) as) vs bs := er.mono fun _ _ ⟨as, r⟩ => ⟨as, PyProof.Rows.Reads.keeps (fun _ _ => sorting_copy_old) r⟩
  exact sorted_vals hl (sortsL (s := { s with heap := sortingHeap (copyHeap s.heap vs) (s.heap.objs.size + 1) vs }) (each_map (R := fun v d => ∃ as, Reads (sortingHeap (copyHeap s.heap vs) (s.heap.objs.size + 1) vs) v d as) enc er') hal (bound_map hu)) (by rw [e.length]; exact hL)
    (h _ (by rw [sortVals_length false rfl]; exact e.length) (sortVals_each (κ := dataKind (sortingHeap (copyHeap s.heap vs) (s.heap.objs.size + 1) vs) (bs.map enc)) (fun b => keyToks (enc b)) e (each_of_map enc (each_keysL hal (each_map (R := fun v d => ∃ as, Reads (sortingHeap (copyHeap s.heap vs) (s.heap.objs.size + 1) vs) v d as) enc er')))))
end
end Pz

set_option maxRecDepth 100000
set_option maxHeartbeats 4000000
/-! Pz, part 6: built-in functions by values. -/
namespace Pz
open PySem L2

/-- a built-in function or type, called -/
def Bfn (X : Cx) (f : Value) (g : FN) : Prop := ∃ r, CallR X f r ∧ OpN X.K r g
def okShow (d : D) : Bool := d.isD && d.py.showable && decide (d.py.depth ≤ 60)
def gRepr : FN
  | [d], R => okShow d = true ∧ d.py.shown.length ≤ sizeLine ∧ R (.d (.str d.py.shown))
  | _, _ => False
def gLen : FN
  | [.str x], R => x.length ≤ sizeLine ∧ R (.d (.int x.length))
  | [.lst xs], R => R (.d (.int xs.length))
  | [.tup xs], R => R (.d (.int xs.length))
  | [.dic ks _], R => R (.d (.int ks.length))
  | _, _ => False
inductive Ty where
  | int | bool | str | tuple | list | dict
  deriving DecidableEq
def Ty.nm : Ty → String
  | .int => "int" | .bool => "bool" | .str => "str" | .tuple => "tuple" | .list => "list" | .dict => "dict"
def D.isTy : Ty → D → Bool
  | .int, .int _ => true
  | .int, .bl _ => true
  | .bool, .bl _ => true
  | .str, .str _ => true
  | .tuple, .tup _ => true
  | .list, .lst _ => true
  | .dict, .dic _ _ => true
  | _, _ => false
def gIsi (t : Ty) : FN
  | [x, _], R => x.isD = true ∧ R (.d (.bl (x.isTy t)))
  | _, _ => False
def gTuple : FN
  | [.lst xs], R => R (.d (.tup xs))
  | [.tup xs], R => R (.d (.tup xs))
  | _, _ => False
def gList : FN
  | [.lst xs], R => R (.l xs)
  | [.tup xs], R => R (.l xs)
  | _, _ => False
def okSort (xs : List D) : Prop := (PySem.W.AllAlike (xs.map D.py) ∧ PySem.W.Sortable (xs.map D.py) ∨ AllL (xs.map D.py)) ∧ (∀ d ∈ xs, d.isD = true ∧ d.py.depth ≤ 60) ∧ xs.length ≤ sizeLine
def sortD (xs : List D) : List D := xs.mergeSort (PySem.W.dataLe false D.py)
def gSorted : FN
  | [.lst xs], R => okSort xs ∧ R (.l (sortD xs))
  | _, _ => False
def gSum : FN
  | [.lst xs], R => ∃ ns : List Int, xs = ns.map D.int ∧ R (.d (.int ns.sum))
  | _, _ => False
def gMax : FN
  | [.int i, .int j], R => R (.d (.int (if j > i then j else i)))
  | _, _ => False
def gMin : FN
  | [.int i, .int j], R => R (.d (.int (if j < i then j else i)))
  | _, _ => False
def gAll : FN
  | [.lst xs], R => ∃ bs : List Bool, xs = bs.map D.bl ∧ R (.d (.bl (bs.all id)))
  | _, _ => False
def gAny : FN
  | [.lst xs], R => ∃ bs : List Bool, xs = bs.map D.bl ∧ R (.d (.bl (bs.any id)))
  | _, _ => False
def gInt : FN
  | [.int i], R => R (.d (.int i))
  | [.bl b], R => R (.d (.int (if b then 1 else 0)))
  | _, _ => False
def gStr : FN
  | [.int i], R => i.natAbs.log2 < 1920 ∧ R (.d (.str (toString i)))
  | [.bl b], R => R (.d (.str (if b then "True" else "False")))
  | _, _ => False

section
variable {X : Cx}
theorem Bfn.of {f : Value} {r : List V → Hp → VK → Prop} {g : FN} (h : CallR X f r) (k : OpN X.K r g) : Bfn X f g := ⟨r, h, k⟩
theorem RtL.one {K : PySem.W.Frag} {Hs H : Hp} {d : D} {vs : List V} (h : RtL K Hs H [d] vs) : ∃ v, vs = [v] ∧ Rt K Hs H d v := by
  obtain ⟨v, r, e, h1, h2⟩ := h
  cases (show r = [] from h2)
  exact ⟨v, e, h1⟩
theorem RtL.two {K : PySem.W.Frag} {Hs H : Hp} {d e : D} {vs : List V} (h : RtL K Hs H [d, e] vs) : ∃ v u, vs = [v, u] ∧ Rt K Hs H d v ∧ Rt K Hs H e u := by
  obtain ⟨v, r, q, h1, h2⟩ := h
  obtain ⟨u, rfl, h3⟩ := RtL.one h2
  exact ⟨v, u, q, h1, h3⟩
/-- repr -/
theorem call_reprZ (hu : X.A.units + 64 < cLine) (hg : X.A.guards = some []) : CallR X (.builtin "repr") (fun vs H Q => ∃ v d, vs = [v] ∧ Sys H ∧ Rp X.K H d v ∧ okShow d = true ∧ d.py.shown.length ≤ sizeLine ∧ Q (.str d.py.shown) H) := by
  intro pins s σ H vs us Q I r h
  obtain ⟨v, d, rfl, sy, hd, ok, hz, q⟩ := h
  obtain ⟨u, rfl, ru⟩ := vals1 r
  simp only [okShow, Bool.and_eq_true, decide_eq_true_eq] at ok
  obtain ⟨as, hr, hn⟩ := Rp.reads I sy d v u ok.1.1 hd ru
  have fin : ∀ (h' : Heap) (t : Tok) (tk : Nat), (∀ b o, s.heap.get? b = some o → h'.get? b = some o) → EP X pins σ Q (.str d.py.shown t) { s with heap := h', toks := tk } := fun h' t tk hk => ⟨.str _, H, I.kept hk, ⟨_, rfl⟩, q⟩
  obtain ⟨⟨_, ok2⟩, ok3⟩ := ok
  generalize d.py = pd at hr ok2 ok3 hz q fin
  cases hr with
  | none => exact PySem.P.repr_of_none (fin s.heap _ _ fun _ _ e => e)
  | bool b => exact PySem.P.repr_of_bool (fin s.heap _ _ fun _ _ e => e)
  | int i t => exact PySem.P.repr_of_int (by simpa [PyData.showable] using ok2) (fin s.heap _ _ fun _ _ e => e)
  | str x t => exact PySem.P.repr_of_str (fin s.heap _ _ fun _ _ e => e) (by simpa only [PyData.shown] using hz)
  | list h1 h2 h3 h4 => exact repr_of_reads' (.list h1 h2 h3 h4) ok2 (fun _ hm => hn _ hm rfl) hg (by omega) (fun _ _ e => e) (fun h' u tk hk => fin h' u tk hk) hz
  | tuple h1 h2 h3 h4 => exact repr_of_reads' (.tuple h1 h2 h3 h4) ok2 (fun _ hm => hn _ hm rfl) hg (by omega) (fun _ _ e => e) (fun h' u tk hk => fin h' u tk hk) hz
  | dict h1 h2 h3 h4 h5 => exact repr_of_reads' (.dict h1 h2 h3 h4 h5) ok2 (fun _ hm => hn _ hm rfl) hg (by omega) (fun _ _ e => e) (fun h' u tk hk => fin h' u tk hk) hz

theorem b_repr (hu : X.A.units + 64 < cLine) (hg : X.A.guards = some []) : Bfn X (.builtin "repr") gRepr := .of (call_reprZ hu hg) fun {Hs H ds vs R Q} e sy hx hf k => by
  match ds, hf with
  | [d], hf =>
    obtain ⟨v, rfl, h⟩ := hx.one
    exact ⟨v, d, rfl, sy, h.rp e, hf.1, hf.2.1, k _ _ _ nr_str hf.2.2⟩
theorem call_lenD' : CallR X (.builtin "len") (fun vs H Q => ∃ a kvs, vs = [.ref a] ∧ H a = some (.dK kvs) ∧ Q (.int kvs.length) H) := by
  intro pins s σ H vs us Q I r h
  obtain ⟨a, kvs, rfl, ha, q⟩ := h
  obtain ⟨u, rfl, ru⟩ := vals1 r
  cases ru
  exact d_len I (.inl ha) fun t s' I' => ⟨.int _, H, I', ⟨_, rfl⟩, q⟩
theorem b_len : Bfn X (.builtin "len") gLen := .of (call_len_str.or (call_len_seq.or call_lenD')) fun {Hs H ds vs R Q} e sy hx hf k => by
  match ds, hf with
  | [], hf => exact hf.elim
  | a :: _ :: _, hf => cases a <;> exact hf.elim
  | [d], hf =>
    obtain ⟨v, rfl, h⟩ := hx.one
    cases d with
    | str x => cases (show v = _ from h); exact .inl ⟨x, rfl, hf.1, k _ _ _ nr_int hf.2⟩
    | lst xs =>
      obtain ⟨a, ws, rfl, h1, h2⟩ := h
      exact .inr (.inl ⟨a, ws, rfl, .inl (SqL.of h1), by rw [← h2.length]; exact k _ _ _ nr_int hf⟩)
    | tup xs =>
      obtain ⟨a, ws, rfl, h1, h2⟩ := h
      exact .inr (.inl ⟨a, ws, rfl, .inr (same_t e h1), by rw [← h2.length]; exact k _ _ _ nr_int hf⟩)
    | dic ks xs =>
      obtain ⟨a, ws, rfl, h1, h3, h2⟩ := h
      refine .inr (.inr ⟨a, _, rfl, h1, ?_⟩)
      rw [List.length_zip, ← h2.length, ← h3, Nat.min_self]
      exact k _ _ _ nr_int hf
    | _ => exact hf.elim
/-- isinstance(x, T) -/
theorem call_isiZ (t : Ty) : CallR X (.builtin "isinstance") (fun vs H Q => ∃ v d, vs = [v, .ty t.nm] ∧ Sys H ∧ Rp X.K H d v ∧ d.isD = true ∧ Q (.bl (d.isTy t)) H) := by
  intro pins s σ H vs us Q I r h
  obtain ⟨v, d, rfl, sy, hd, ok, q⟩ := h
  obtain ⟨u, w', rfl, ru, rw'⟩ := vals2 r
  cases (show w' = Value.type t.nm from rw')
  obtain ⟨as, hr, hn⟩ := Rp.reads I sy d v u ok hd ru
  have fin : ∀ (b : Bool) (tk : Nat), b = d.isTy t → EP X pins σ Q (.bool b) { s with toks := tk } := fun b tk eb => ⟨.bl _, H, I.tok _, by rw [eb]; rfl, q⟩
  cases t with
  | int => exact PySem.W.isinstance_int_data hr fun tk _ => fin _ tk (by cases d <;> first | rfl | (simp only [D.py]; rfl))
  | bool => exact PySem.W.isinstance_bool_data hr fun tk _ => fin _ tk (by cases d <;> first | rfl | (simp only [D.py]; rfl))
  | str => exact PySem.W.isinstance_str_data hr fun tk _ => fin _ tk (by cases d <;> first | rfl | (simp only [D.py]; rfl))
  | tuple => exact PySem.W.isinstance_tuple_data hr fun tk _ => fin _ tk (by cases d <;> first | rfl | (simp only [D.py]; rfl))
  | list => exact PySem.W.isinstance_list_data hr fun tk _ => fin _ tk (by cases d <;> first | rfl | (simp only [D.py]; rfl))
  | dict => exact PySem.W.isinstance_dict_data hr fun tk _ => fin _ tk (by cases d <;> first | rfl | (simp only [D.py]; rfl))
theorem b_tuple : Bfn X (.type "tuple") gTuple := .of call_tuple_of fun {Hs H ds vs R Q} e sy hx hf k => by
  match ds, hf with
  | [], hf => exact hf.elim
  | a :: _ :: _, hf => cases a <;> exact hf.elim
  | [d], hf =>
    obtain ⟨v, rfl, h⟩ := hx.one
    cases d with
    | lst xs =>
      obtain ⟨a, ws, rfl, h1, h2⟩ := h
      exact ⟨a, ws, rfl, .inl ⟨SqL.of h1, fun p hp => k _ _ _ (.nt hp h2) hf⟩⟩
    | tup xs =>
      have h0 : Rp X.K Hs (.tup xs) v := h
      obtain ⟨a, ws, rfl, h1, h2⟩ := h
      exact ⟨a, ws, rfl, .inr ⟨same_t e h1, k _ _ _ (.old h0) hf⟩⟩
    | _ => exact hf.elim
theorem b_list : Bfn X (.type "list") gList := .of call_list_of fun {Hs H ds vs R Q} e sy hx hf k => by
  match ds, hf with
  | [], hf => exact hf.elim
  | a :: _ :: _, hf => cases a <;> exact hf.elim
  | [d], hf =>
    obtain ⟨v, rfl, h⟩ := hx.one
    cases d with
    | lst xs =>
      obtain ⟨a, ws, rfl, h1, h2⟩ := h
      exact ⟨a, ws, rfl, .inl (SqL.of h1), fun p hp => k _ _ _ (.nl hp h2) hf⟩
    | tup xs =>
      obtain ⟨a, ws, rfl, h1, h2⟩ := h
      exact ⟨a, ws, rfl, .inr (same_t e h1), fun p hp => k _ _ _ (.nl hp h2) hf⟩
    | _ => exact hf.elim
theorem b_sum (hc : X.calm = true) : Bfn X (.builtin "sum") gSum := .of (cr_sum hc) fun {Hs H ds vs R Q} e sy hx hf k => by
  match ds, hf with
  | [.lst xs], ⟨ns, e1, hf⟩ =>
    obtain ⟨v, rfl, a, ws, rfl, h1, h2⟩ := hx.one
    subst e1
    cases RpL.of_ints h2
    exact ⟨a, ns, rfl, SqL.of h1, k _ _ _ nr_int hf⟩
theorem b_all (hc : X.calm = true) : Bfn X (.builtin "all") gAll := .of (cr_all hc) fun {Hs H ds vs R Q} e sy hx hf k => by
  match ds, hf with
  | [.lst xs], ⟨ns, e1, hf⟩ =>
    obtain ⟨v, rfl, a, ws, rfl, h1, h2⟩ := hx.one
    subst e1
    cases RpL.of_bls h2
    exact ⟨a, ns, rfl, SqL.of h1, k _ _ _ nr_bl hf⟩
theorem b_any (hc : X.calm = true) : Bfn X (.builtin "any") gAny := .of (cr_any hc) fun {Hs H ds vs R Q} e sy hx hf k => by
  match ds, hf with
  | [.lst xs], ⟨ns, e1, hf⟩ =>
    obtain ⟨v, rfl, a, ws, rfl, h1, h2⟩ := hx.one
    subst e1
    cases RpL.of_bls h2
    exact ⟨a, ns, rfl, SqL.of h1, k _ _ _ nr_bl hf⟩
theorem b_max (hc : X.calm = true) : Bfn X (.builtin "max") gMax := .of (call_max2 hc) fun {Hs H ds vs R Q} e sy hx hf k => by
  match ds, hf with
  | [.int i, .int j], hf =>
    obtain ⟨v, u, rfl, h1, h2⟩ := hx.two
    cases (show v = _ from h1); cases (show u = _ from h2)
    exact ⟨i, j, rfl, k _ _ _ nr_int hf⟩
theorem b_min (hc : X.calm = true) : Bfn X (.builtin "min") gMin := .of (call_min2 hc) fun {Hs H ds vs R Q} e sy hx hf k => by
  match ds, hf with
  | [.int i, .int j], hf =>
    obtain ⟨v, u, rfl, h1, h2⟩ := hx.two
    cases (show v = _ from h1); cases (show u = _ from h2)
    exact ⟨i, j, rfl, k _ _ _ nr_int hf⟩
theorem b_int : Bfn X (.type "int") gInt := .of call_int1 fun {Hs H ds vs R Q} e sy hx hf k => by
  match ds, hf with
  | [.int i], hf =>
    obtain ⟨v, rfl, h1⟩ := hx.one
    cases (show v = _ from h1)
    exact .inl ⟨i, rfl, k _ _ _ nr_int hf⟩
  | [.bl b], hf =>
    obtain ⟨v, rfl, h1⟩ := hx.one
    cases (show v = _ from h1)
    exact .inr ⟨b, rfl, k _ _ _ nr_int hf⟩
theorem call_str_bl : CallR X (.type "str") (fun xs H Q => ∃ b : Bool, xs = [.bl b] ∧ Q (.str (if b then "True" else "False")) H) := by
  intro pins s σ H xs us Q I r h
  obtain ⟨b, rfl, q⟩ := h
  obtain ⟨u, rfl, rv⟩ := vals1 r
  cases rv
  exact PySem.P.str_of_bool ⟨.str _, H, I.tok _, ⟨_, rfl⟩, q⟩
theorem b_str : Bfn X (.type "str") gStr := .of (call_str_int.or call_str_bl) fun {Hs H ds vs R Q} e sy hx hf k => by
  match ds, hf with
  | [.int i], hf =>
    obtain ⟨v, rfl, h1⟩ := hx.one
    cases (show v = _ from h1)
    exact .inl ⟨i, rfl, hf.1, k _ _ _ nr_str hf.2⟩
  | [.bl b], hf =>
    obtain ⟨v, rfl, h1⟩ := hx.one
    cases (show v = _ from h1)
    exact .inr ⟨b, rfl, k _ _ _ nr_str hf⟩
/-- sorted of alike data -/
theorem each_of_rp {pins : List (Addr × Obj)} {σ : St} {H Hs : Hp} {s : Shared} (I : Inv X pins σ H s) (e : Same Hs H) (sy : Sys H) : ∀ {ds : List D} {vs : List V} {us : List Value}, RpL X.K Hs ds vs → Vals vs us → (∀ d ∈ ds, d.isD = true) →
    PySem.W.EachIs (fun u d => (∃ v, Rp X.K Hs d v ∧ RelV v u)) us ds ∧ PySem.W.EachIs (fun u d => ∃ as, Reads s.heap u (D.py d) as) us ds
  | [], _, _, h, r, _ => by cases (show _ = [] from h); cases r; exact ⟨.nil, .nil⟩
  | d :: ds, _, _, ⟨v, vs, q, h1, h2⟩, r, hd => by
    subst q
    cases r with
    | cons r1 r2 =>
      obtain ⟨a1, a2⟩ := each_of_rp I e sy h2 r2 fun d hd' => hd d (List.mem_cons_of_mem _ hd')
      obtain ⟨as, q, _⟩ := Rp.reads I sy d v _ (hd d List.mem_cons_self) (Rp.mono e _ _ h1) r1
      exact ⟨.cons ⟨v, h1, r1⟩ a1, .cons ⟨as, q⟩ a2⟩
theorem rp_of_each {K : PySem.W.Frag} {Hs : Hp} : ∀ {ds : List D} {us : List Value}, PySem.W.EachIs (fun u d => (∃ v, Rp K Hs d v ∧ RelV v u)) us ds → ∃ vs, RpL K Hs ds vs ∧ Vals vs us
  | _, _, .nil => ⟨[], rfl, .nil⟩
  | _, _, .cons ⟨v, h1, h2⟩ t => let ⟨vs, q1, q2⟩ := rp_of_each t; ⟨v :: vs, ⟨v, vs, rfl, h1, q1⟩, .cons h2 q2⟩
theorem call_sortedZ (hu : X.A.units + 64 < cLine) : CallR X (.builtin "sorted") (fun vs H Q => ∃ a ws ds Hs, vs = [.ref a] ∧ Same Hs H ∧ Sys H ∧ H a = some (.lst ws) ∧ RpL X.K Hs ds ws ∧ okSort ds ∧ ∀ p ws', H p = none → RpL X.K Hs (sortD ds) ws' → Q (.ref p) (upd H p (.lst ws'))) := by
  intro pins s σ H vs us Q I r h
  obtain ⟨a, ws, ds, Hs, rfl, e, sy, ha, hr, ⟨o12, o3, o4⟩, q⟩ := h
  rw [Vals.ref1 r]
  obtain ⟨its, rv, hl, _⟩ := I.list (SqL.of ha)
  obtain ⟨e1, e2⟩ := each_of_rp I e sy hr rv fun d hd => (o3 d hd).1
  suffices go : ∀ out : List Value, out.length = ds.length → PySem.W.EachIs (fun u d => (∃ v, Rp X.K Hs d v ∧ RelV v u)) out (ds.mergeSort (PySem.W.dataLe false D.py)) → EP X pins σ Q (.ref (s.heap.objs.size + 1)) { s with heap := PyProof.Rows.sortedAll s.heap its (List.toArray out) } by
    rcases o12 with ⟨o1, o2⟩ | o1
    · exact PySem.W.sorted_data hl.isList e1 e2 o1 o2 o4 (fun d hd => by have := (o3 d hd).2; omega) go
    · exact sorted_dataL hl.isList e1 e2 o1 o4 (fun d hd => by have := (o3 d hd).2; omega) go
  intro out hlen hout
  obtain ⟨ws', q1, q2⟩ := rp_of_each hout
  obtain ⟨ep, he'⟩ := PyProof.Rows.sortedAll_at s.heap its out.toArray
  have hz : ws'.length ≤ sizeLine := by rw [q2.length, hlen]; exact o4
  have I' : Inv X pins σ (upd H (s.heap.objs.size + 1) (.lst ws')) { s with heap := PyProof.Rows.sortedAll s.heap its out.toArray } :=
    I.laid (t' := s.toks) (fun _ _ => PyProof.Rows.sortedAll_old) (Nat.le_succ _) ⟨hz, out, ep, q2, he'⟩
  exact ⟨.ref _, _, I', rfl, q _ _ (I.hok.fresh (Nat.le_succ _)) q1⟩
theorem b_sorted (hu : X.A.units + 64 < cLine) : Bfn X (.builtin "sorted") gSorted := .of (call_sortedZ hu) fun {Hs H ds vs R Q} e sy hx hf k => by
  match ds, hf with
  | [.lst xs], hf =>
    obtain ⟨v, rfl, a, ws, rfl, h1, h2⟩ := hx.one
    exact ⟨a, ws, xs, Hs, rfl, e, sy, h1, h2, hf.1, fun p ws' hp hr => k _ _ _ (.nl hp hr) hf.2⟩
end
end Pz

set_option maxRecDepth 100000
set_option maxHeartbeats 4000000
/-! Pz, part 7: subscripts, slices; defs, their promises, calls. -/
namespace Pz
open PySem L2 PySem.Spec PyProof.Rows

/-! ### subscripts and slices -/
def lookD (ks : List Key) (xs : List D) (k : Key) : Option D := ((ks.zip xs).find? fun kv => decide (kv.1 = k)).map (·.2)
def fIx : F2
  | .lst xs, .int i, R => ∃ d, atI xs i = some d ∧ R (.d d)
  | .tup xs, .int i, R => ∃ d, atI xs i = some d ∧ R (.d d)
  | .str z, .int i, R => ∃ c, z.length ≤ sizeLine ∧ atI z.cps.toList i = some c ∧ R (.d (.str ⟨#[c]⟩))
  | .dic ks xs, y, R => ∃ k d, keyOf y = some k ∧ lookD ks xs k = some d ∧ R (.d d)
  | _, _, _ => False
theorem lookD_rp {K : PySem.W.Frag} {H : Hp} {k : Key} : ∀ {ks : List Key} {xs : List D} {vs : List V} {d : D}, RpL K H xs vs → lookD ks xs k = some d → ∃ v, valV (ks.zip vs) k = some v ∧ Rp K H d v
  | [], _, _, _, _, e => by simp [lookD] at e
  | _ :: _, [], _, _, _, e => by simp [lookD] at e
  | j :: ks, x :: xs, _, d, ⟨v, r, h1, h2, h3⟩, e => by
    subst h1
    unfold lookD at e
    rw [List.zip_cons_cons, List.find?_cons] at e
    by_cases z : j = k
    · simp [z] at e
      subst e
      exact ⟨v, by rw [List.zip_cons_cons, valV_pos (p := (j, v)) z], h2⟩
    · simp [z] at e
      obtain ⟨w, q1, q2⟩ := lookD_rp (ks := ks) (d := d) h3 (by unfold lookD; simpa using e)
      exact ⟨w, by rw [List.zip_cons_cons, valV_neg (p := (j, v)) z]; exact q1, q2⟩
theorem atI_rp {K : PySem.W.Frag} {H : Hp} {xs : List D} {vs : List V} {i : Int} {d : D} (h : RpL K H xs vs) (e : atI xs i = some d) : ∃ v, atI vs i = some v ∧ Rp K H d v := by
  unfold atI at e
  obtain ⟨j, h1, h2⟩ := Option.bind_eq_some_iff.mp e
  obtain ⟨v, q1, q2⟩ := h.get h2
  refine ⟨v, ?_, q2⟩
  unfold atI
  rw [← h.length, h1]
  exact q1
section
variable {X : Cx}
theorem ix_dictZ (hu : X.A.units + 1 < cLine) : IxR X (fun x y H Q => ∃ a v, x = .ref a ∧ DGet H a y (some v) ∧ Q v H) := by
  intro value slice pins s σ H x y v u Q I rx ry h hs
  obtain ⟨a, z, rfl, g, q⟩ := h
  cases rx
  exact tail_any (dict_typeIs I g) PySem.F.slot_dict_getitem.lookup (d_getItem hu I g ry fun w' s' I' rw' => ⟨z, H, I', rw', q⟩) hs
def Ixs (X : Cx) : Prop := ∃ r, IxR X r ∧ Op2 X.K r fIx
theorem ixs_all (hu : X.A.units + 1 < cLine) : Ixs X := by
  refine ⟨_, ix_seq.or (ix_dictZ hu), fun {Hs H x y v u R Q} e sy hx hy hf k => ?_⟩
  cases x with
  | lst xs =>
    cases y with
    | int i =>
      obtain ⟨d, h1, h2⟩ := hf
      obtain ⟨a, vs, rfl, h3, h4⟩ := hx
      cases (show u = _ from hy)
      obtain ⟨w, q1, q2⟩ := atI_rp h4 h1
      exact .inl (.inl ⟨a, vs, i, w, rfl, rfl, SqL.of h3, q1, k _ _ _ (.old q2) h2⟩)
    | _ => exact hf.elim
  | tup xs =>
    cases y with
    | int i =>
      obtain ⟨d, h1, h2⟩ := hf
      obtain ⟨a, vs, rfl, h3, h4⟩ := hx
      cases (show u = _ from hy)
      obtain ⟨w, q1, q2⟩ := atI_rp h4 h1
      exact .inl (.inr (.inl ⟨a, vs, i, w, rfl, rfl, same_t e h3, q1, k _ _ _ (.old q2) h2⟩))
    | _ => exact hf.elim
  | str z =>
    cases y with
    | int i =>
      obtain ⟨c, h0, h1, h2⟩ := hf
      cases (show v = _ from hx)
      cases (show u = _ from hy)
      exact .inl (.inr (.inr ⟨z, i, c, rfl, rfl, h0, h1, k _ _ _ nr_str h2⟩))
    | _ => exact hf.elim
  | dic ks xs =>
    have hf' : ∃ k d, keyOf y = some k ∧ lookD ks xs k = some d ∧ R (.d d) := by cases y <;> exact hf
    obtain ⟨kk, d, h1, h2, h3⟩ := hf'
    obtain ⟨a, vs, rfl, h4, h5, h6⟩ := hx
    cases keyOf_rp h1 hy
    obtain ⟨w, q1, q2⟩ := lookD_rp h6 h2
    refine .inr ⟨a, w, rfl, ?_, k _ _ _ (.old q2) h3⟩
    rw [← q1]
    exact DGet.k h4
  | _ => cases y <;> exact hf.elim

def cutD {α : Type} (xs : List α) (lo hi : Option Int) : List α := (xs.drop (HT.sIx xs.length 0 lo)).take (HT.sIx xs.length xs.length hi - HT.sIx xs.length 0 lo)
abbrev F3 := D → Option Int → Option Int → (Res → Prop) → Prop
def fSl : F3
  | .lst xs, lo, hi, R => R (.l (cutD xs lo hi))
  | .tup xs, lo, hi, R => R (.d (.tup (cutD xs lo hi)))
  | .str z, lo, hi, R => z.length ≤ sizeLine ∧ R (.d (.str (cutS z lo hi)))
  | _, _, _, _ => False
theorem cut_rp {K : PySem.W.Frag} {H : Hp} {xs : List D} {vs : List V} {lo hi : Option Int} (h : RpL K H xs vs) : RpL K H (cutD xs lo hi) (cutV vs lo hi) := by
  unfold cutD cutV
  rw [h.length]
  exact (h.drop _).take _
def rSl3 (K : PySem.W.Frag) : V → Option Int → Option Int → Hp → VK → Prop := fun x lo hi H Q => rSlL K x lo hi H Q ∨ rSlA K x lo hi H Q ∨ rSlS x lo hi H Q
theorem sl3 : SlR X (rSl3 X.K) := sl_list.or (sl_tupA.or sl_str)
theorem sl_op {K : PySem.W.Frag} {Hs H : Hp} {x : D} {v : V} {lo hi : Option Int} {R : Res → Prop} {Q : VK} (e : Same Hs H) (hx : Rt K Hs H x v) (hf : fSl x lo hi R) (k : ∀ z res H', NR K Hs H z res H' → R res → Q z H') : rSl3 K v lo hi H Q := by
  cases x with
  | lst xs =>
    obtain ⟨a, vs, rfl, h1, h2⟩ := hx
    exact .inl ⟨a, vs, rfl, SqL.of h1, fun p hp => k _ _ _ (.nl hp (cut_rp h2)) hf⟩
  | tup xs =>
    have h0 : Rp K Hs (.tup xs) v := hx
    obtain ⟨a, vs, rfl, h1, h2⟩ := hx
    refine .inr (.inl ⟨a, vs, rfl, same_t e h1, fun z => ?_, fun _ p hp => k _ _ _ (.nt hp (cut_rp h2)) hf⟩)
    have q : cutD xs lo hi = xs := by
      unfold cutD
      rw [h2.length, z.1, z.2, ← h2.length]
      simp
    have hf' : R (.d (.tup xs)) := by rw [← q]; exact hf
    exact k _ _ _ (.old h0) hf'
  | str z => cases (show v = _ from hx); exact .inr (.inr ⟨z, rfl, hf.1, k _ _ _ nr_str hf.2⟩)
  | _ => exact hf.elim
end

/-! ### defs -/
/-- a def that keeps its promise where no repr runs around -/
structure FnZ (P : Program) (w : World) (K : PySem.W.Frag) (mg : Str → Option Value) (base : Heap) (CX : CXT) (k : Nat) (f : Addr) (fd : FuncData) (ps : List Str) (sp : Sp) : Prop where
  len : ∀ vs H Q E, sp vs H Q E → vs.length = ps.length
  run : ∀ (A : Around) (outer : List Env) (s : Shared) (H : Hp) (args : Args) (us : List Value) (vs : List V) (Q : VK) (E : XK), A.guards = some [] → Room k A → Env0 P w K mg base A outer s H → BindsTo s fd args (ps.zip us) → Vals vs us → sp vs H Q E →
    codeAny (model P w) A (.call (.ref f) args) (CR CX outer P w H s Q E) s
theorem FnZ.mono {P : Program} {w : World} {K : PySem.W.Frag} {mg : Str → Option Value} {base : Heap} {CX : CXT} {j k : Nat} {f : Addr} {fd : FuncData} {ps : List Str} {sp : Sp} (F : FnZ P w K mg base CX j f fd ps sp) (h : j ≤ k) : FnZ P w K mg base CX k f fd ps sp :=
  ⟨F.len, fun A outer s H args us vs Q E hg hr => F.run A outer s H args us vs Q E hg (hr.mono h)⟩
section
variable {X : Cx} {CX : CXT} {k : Nat} {f C : Addr} {fd : FuncData} {ps : List Str} {sp : Sp} {dvs : List V} {ds : List Value} {E : XK} {x m : Str} {p pos apos : Pos} {e o : Expr} {es : List Expr} {ta : TE} {t : TA}
theorem runZ {pins : List (Addr × Obj)} {σ : L2.St} {H : Hp} {s : Shared} {Q : VK} {us : List Value} {vs : List V} (F : FnZ X.prog X.w X.K X.mg X.base CX k f fd ps sp) (hg : X.A.guards = some []) (hr : Room k X.A) (hb : Binds X.K fd ps []) (hx : Passes CX X E)
    (I : Inv X pins σ H s) (r : Vals vs us) (h : sp vs H Q E) : wpAny (model X.prog X.w) X.A (call (.ref f) us) (EP X pins σ Q) X.xe s := by
  have hl : us.length = ps.length := by rw [← r.length]; exact F.len _ _ _ _ h
  have hb' := hb s us I.kIn (by rw [List.append_nil]; exact hl)
  rw [List.append_nil] at hb'
  refine wpAny_call (codeAny_mono (F.run X.A X.stack s H ⟨us, []⟩ us vs Q E hg hr I.env0 hb' r h) fun res s' hq => ?_)
  match res, hq with
  | .error e, hq => exact hx pins σ H s e s' I hq
  | .ok (.ret u), hq => exact I.after hq
  | .ok .next, hq => exact hq.elim
  | .ok .brk, hq => exact hq.elim
  | .ok .cont, hq => exact hq.elim
theorem pe_callZ (F : FnZ X.prog X.w X.K X.mg X.base CX k f fd ps sp) (hgd : X.A.guards = some []) (hr : Room k X.A) (hg : Gl X x) (hm : X.mg x = some (.ref f)) (hk : PySem.W.keepIn X.K (.ref f) = true) (hb : Binds X.K fd ps []) (hx : Passes CX X E)
    (ha : PA X (e :: es) t) (hdb : (x == ("__debug__" : Str)) = false) (he : starEach (e :: es) X.env = (false, eval e X.env) :: starEach es X.env) (hpl : (backTo pos (starEach es X.env)).any (·.1) = false) :
    PE X (.Call (.Name x p) (e :: es) [] pos) (fun σ H Q => t σ H fun vs H1 => sp vs H1 Q E) := ⟨fun pins s σ H Q I h =>
  wpAny_Call_Name_kw (ld_glob I hg hm (PySem.W.callWith_K (h₀ := X.base) I.ok.mod.kin hk (thn (ha.run pos pins s σ H _ I h) fun us s1 ⟨vs, H1, I1, r, q⟩ => ⟨I1.kIn, runZ F hgd hr hb hx I1 r q⟩) he hpl) hdb)⟩
theorem pe_callZ0 (F : FnZ X.prog X.w X.K X.mg X.base CX k f fd ps sp) (hgd : X.A.guards = some []) (hr : Room k X.A) (hg : Gl X x) (hm : X.mg x = some (.ref f)) (hk : PySem.W.keepIn X.K (.ref f) = true) (hb : Binds X.K fd ps []) (hx : Passes CX X E)
    (hdb : (x == ("__debug__" : Str)) = false) : PE X (.Call (.Name x p) [] [] pos) (fun σ H Q => sp [] H Q E) := ⟨fun pins s σ H Q I h =>
  wpAny_Call_Name_kw (ld_glob I hg hm (PySem.W.callWith_K0 I.kIn hk (runZ (us := []) F hgd hr hb hx I .nil h)) hdb)⟩
end
/-- THE RULE of a def -/
theorem fnz_of {CX : CXT} {P : Program} {w : World} {K : PySem.W.Frag} {mg : Str → Option Value} {base : Heap} {k : Nat} {x qual : Str} {st : Stmt} {f : Addr} {fd : FuncData} {N ps : List Str} {sp : Sp} (F : Fun K x qual st f fd) (S : FnScope N ps (defScope st))
    (len : ∀ vs H Q E, sp vs H Q E → vs.length = ps.length)
    (hbody : ∀ (cdv : Value) (A : Around) (outer : List Env) (s : Shared) (H : Hp) (vs : List V) (Q : VK) (E : XK), A.guards = some [] → Room k (A.deeper (envOfC qual (defScope st) s.heap.objs.size f cdv)) → sp vs H Q E →
      ∃ t, PSs (cxOf CX P w K mg base N qual (defScope st) f cdv A outer s H E) (defBody st) t ∧ t { nx := fun _ H' => Q .non H', rt := Q } (start N vs) H) :
    FnZ P w K mg base CX (k + 1) f fd ps sp := by
  obtain ⟨oc, od, kV, doc, pm, an, cdv, ct, osl, rfl, lk, hcd⟩ := F.ex
  refine ⟨len, fun A outer s H args us vs Q E hg hr e0 hb r hsp => ?_⟩
  have hl := len _ _ _ _ hsp
  have KX : K.In s.heap := e0.mod.kin.keeps fun b o e => (e0.bs b o e).1
  have lim : s.heap.NoLimit := e0.mod.nolimit.keeps fun b o e => (e0.bs b o e).1
  refine codeAny_call_function hr.depth (KX _ _ lk) rfl S.co S.gen rfl (PySem.W.codeRec_of KX hcd) (hb _ _ _ _ ?_)
  refine wpAny_newFunctionEnv_cells S.kind (fun ⟨y1, y2⟩ hy => ?_) fun env he s1 x1 => ?_
  · rcases S.par y1 (List.of_mem_zip hy).1 with q | q
    · exact .inl q
    · exact .inr ⟨q, PySem.W.cellsFrom_some _ _ _ (.inl q)⟩
  subst he
  refine ⟨lim.keeps x1.toInCall.keep, codeAny_func ?_⟩
  obtain ⟨t, ht, hq⟩ := hbody cdv A outer s H vs Q E hg (hr.deeper _) hsp
  have I : Inv (cxOf CX P w K mg base N qual (defScope st) f cdv A outer s H E) [] (start N vs) H s1 := inv_start S hr.hd e0 hl r x1
  refine wpAny_mono (ht.run [] s1 (start N vs) H _ I hq) (fun fl s' hs => ?_) fun e s' hs => hs
  match fl, hs with
  | .ret u, ⟨v, σ', H', J, rv, q⟩ => exact ⟨v, H', J.os, J.bare, J.base, J.hok, rv, q⟩
  | .next, ⟨σ', H', J, q⟩ => exact ⟨.non, H', J.os, J.bare, J.base, J.hok, rfl, q⟩
  | .brk, ⟨_, _, _, q⟩ => exact q.elim
  | .cont, ⟨_, _, _, q⟩ => exact q.elim
end Pz

set_option maxRecDepth 100000
set_option maxHeartbeats 4000000
/-! Pz, part 8: judgements of expressions. -/
namespace Pz
open PySem L2 PySem.Spec PyProof.Rows

/-! ### what a callee promises, in data -/
inductive FnI where
  /-- touches nothing -/
  | pu (pf : List D → (Res → Prop) → Prop)
  /-- draws from the deck, its first argument -/
  | dk (pf : List D → Nat → (Res → Nat → Prop) → Prop)
/-- what is handed back: a datum, or a new object that nobody else knows -/
def RF (K : PySem.W.Frag) (Hs H H' : Hp) (v : V) : Res → Prop
  | .d x => Rp K Hs x v
  | .l xs => ∃ a vs, v = .ref a ∧ H a = none ∧ Hs a = none ∧ H' a = some (.lst vs) ∧ RpL K Hs xs vs
  | .m ks xs => ∃ a vs, v = .ref a ∧ H a = none ∧ Hs a = none ∧ H' a = some (.dK (ks.zip vs)) ∧ ks.length = xs.length ∧ RpL K Hs xs vs
  | .p _ => False
def spP (K : PySem.W.Frag) (pf : List D → (Res → Prop) → Prop) : Sp := fun vs H Q _ => ∃ (Hs : Hp) (ds : List D) (R : Res → Prop), Same Hs H ∧ Sys Hs ∧ RpL K Hs ds vs ∧ pf ds R ∧
  ∀ Hs' H' v r, Same Hs Hs' → Same Hs' H' → Same H H' → (∀ b, H b ≠ none → Hs b = none → Hs' b = none) → RF K Hs' H H' v r → R r → Q v H'
def spD (K : PySem.W.Frag) (pf : List D → Nat → (Res → Nat → Prop) → Prop) : Sp := fun vs H Q _ => ∃ (p c : Addr) (ws : List V) (k : Nat) (Hs : Hp) (ds : List D) (R : Res → Nat → Prop), vs = .ref p :: ws ∧ Same Hs H ∧ Sys Hs ∧ Dk (some (p, c)) Hs H k ∧
  RpL K Hs ds ws ∧ pf ds k R ∧
  ∀ Hs' H' v r k', Same Hs Hs' → Same Hs' H' → Dk (some (p, c)) Hs' H' k' → (∀ b o, H b = some o → ¬ inDk (some (p, c)) b → H' b = some o) → (∀ b, H b ≠ none → Hs b = none → Hs' b = none) → RF K Hs' H H' v r → R r k' → Q v H'
def FnI.sp (K : PySem.W.Frag) : FnI → Sp
  | .pu pf => spP K pf
  | .dk pf => spD K pf
/-- n arguments (the deck is one) -/
def FnI.Len (n : Nat) : FnI → Prop
  | .pu pf => ∀ ds R, pf ds R → ds.length = n
  | .dk pf => ∀ ds k R, pf ds k R → ds.length + 1 = n
theorem FnI.len {K : PySem.W.Frag} {n : Nat} {i : FnI} (h : i.Len n) : ∀ vs H Q E, i.sp K vs H Q E → vs.length = n := fun vs H Q E q => by
  cases i with
  | pu pf => obtain ⟨Hs, ds, R, _, _, h1, h2, _⟩ := q; rw [← h1.length]; exact h _ _ h2
  | dk pf => obtain ⟨p, c, ws, k, Hs, ds, R, rfl, _, _, _, h1, h2, _⟩ := q; rw [List.length_cons, ← h1.length]; exact h _ _ _ h2

/-- what may be called: by place, by name -/
structure Fs where
  fn : Str → Option FnI
  kw : Str → List Str → Option FnI
  /-- constants of the module -/
  gv : Str → Option D
  /-- tables of the module: a word, a number and a def -/
  kd : Str → Option (List (Str × Nat × FnI))
def pick {α : Type} (π : List Nat) (l : List α) : List α := π.filterMap fun i => l[i]?
/-- what holds of the program -/
structure Gam where
  P : Program
  w : World
  K : PySem.W.Frag
  mg : Str → Option Value
  base : Heap
  lv : Nat
  dk : Option (Addr × Addr)
  F : Fs
def blts : List Str := ["len", "repr", "isinstance", "tuple", "list", "sorted", "sum", "max", "min", "all", "any", "int", "bool", "str", "dict", "range", "zip", "enumerate", "set", "abs"]
/-- a def of the module that may be called -/
structure Has (Γ : Gam) (x : Str) (i : FnI) : Prop where
  ex : ∃ (f : Addr) (fd : FuncData) (ps : List Str) (k : Nat), k ≤ Γ.lv ∧ FnZ Γ.P Γ.w Γ.K Γ.mg Γ.base CX0 k f fd ps (i.sp Γ.K) ∧ Γ.mg x = some (.ref f) ∧ PySem.W.keepIn Γ.K (.ref f) = true ∧ Binds Γ.K fd ps []
/-- .. by the names ks; π puts them in order -/
structure HasK (Γ : Gam) (x : Str) (ks : List Str) (i : FnI) : Prop where
  ex : ∃ (f : Addr) (fd : FuncData) (ps : List Str) (k : Nat) (pf : List D → (Res → Prop) → Prop) (π : List Nat), k ≤ Γ.lv ∧ FnZ Γ.P Γ.w Γ.K Γ.mg Γ.base CX0 k f fd ps (spP Γ.K pf) ∧ Γ.mg x = some (.ref f) ∧ PySem.W.keepIn Γ.K (.ref f) = true ∧
    (∀ (s : Shared) (ws : List Value), Γ.K.In s.heap → ws.length = ks.length → BindsTo s fd ⟨[], ks.zip ws⟩ (ps.zip (pick π ws))) ∧ i = .pu (fun ds R => ds.length = ks.length ∧ pf (pick π ds) R)
/-- a constant of the module -/
structure Glob (Γ : Gam) (x : Str) (d : D) : Prop where
  ex : ∃ (u : Value) (v : V), Γ.mg x = some u ∧ RelV v u ∧ ∀ H, Rp Γ.K H d v
/-- a def at an address -/
structure HasF (Γ : Gam) (f : Addr) (i : FnI) : Prop where
  ex : ∃ (fd : FuncData) (ps : List Str) (k : Nat), k ≤ Γ.lv ∧ FnZ Γ.P Γ.w Γ.K Γ.mg Γ.base CX0 k f fd ps (i.sp Γ.K) ∧ PySem.W.keepIn Γ.K (.ref f) = true ∧ Binds Γ.K fd ps []
/-- a table of the module, a written dict of written pairs -/
structure KTab (Γ : Gam) (x : Str) (t : List (Str × Nat × FnI)) : Prop where
  ex : ∃ (a : Addr) (es : Array DictEntry) (n : Nat), Γ.mg x = some (.ref a) ∧ KDict Γ.K Γ.w a es n ∧ ∀ z, (t.lookup z = none → PySem.W.nsIn Γ.K a z = some none) ∧
    ∀ m i, t.lookup z = some (m, i) → ∃ (p f : Addr) (o : Obj) (its : Array Value) (q : Nat) (tk : Tok), PySem.W.nsIn Γ.K a z = some (some (.ref p)) ∧ Γ.K.lookup p = some o ∧ o.cls = .type "tuple" ∧ o.data = .seq its q ∧ its.toList = [.int (m : Int) tk, .ref f] ∧ HasF Γ f i
structure Gam.Ok (Γ : Gam) : Prop where
  fn : ∀ x i, Γ.F.fn x = some i → Has Γ x i
  kw : ∀ x ks i, Γ.F.kw x ks = some i → HasK Γ x ks i
  nb : ∀ x ∈ blts, Γ.mg x = none
  gv : ∀ x d, Γ.F.gv x = some d → Glob Γ x d
  kd : ∀ x t, Γ.F.kd x = some t → KTab Γ x t
/-- the scope at hand: the names by slot, their kinds, which cells are its own -/
structure Sx where
  N : List Str
  sc : Scope
  fb : Str → Bool
structure Good (Γ : Gam) (S : Sx) (X : Cx) : Prop where
  P : X.prog = Γ.P
  w : X.w = Γ.w
  K : X.K = Γ.K
  mg : X.mg = Γ.mg
  base : X.base = Γ.base
  N : X.N = S.N
  sc : X.env.scope = S.sc
  fb : X.fn = S.fb
  nd : S.N.Nodup
  calm : X.calm = true
  gd : X.A.guards = some []
  room : Room Γ.lv X.A
  po : PassesOwn (model X.prog X.w) X.A X.env X.xe
theorem Good.hu {Γ : Gam} {S : Sx} {X : Cx} (g : Good Γ S X) : X.A.units + 64 < cLine := g.room.units
theorem Has.at {Γ : Gam} {S : Sx} {X : Cx} (g : Good Γ S X) {x : Str} {i : FnI} (h : Has Γ x i) :
    ∃ (f : Addr) (fd : FuncData) (ps : List Str) (k : Nat), k ≤ Γ.lv ∧ FnZ X.prog X.w X.K X.mg X.base CX0 k f fd ps (i.sp X.K) ∧ X.mg x = some (.ref f) ∧ PySem.W.keepIn X.K (.ref f) = true ∧ Binds X.K fd ps [] := by
  obtain ⟨f, fd, ps, k, h⟩ := h.ex
  rw [g.P, g.w, g.K, g.mg, g.base]
  exact ⟨f, fd, ps, k, h⟩

theorem HasF.at {Γ : Gam} {S : Sx} {X : Cx} (g : Good Γ S X) {f : Addr} {i : FnI} (h : HasF Γ f i) :
    ∃ (fd : FuncData) (ps : List Str) (k : Nat), k ≤ Γ.lv ∧ FnZ X.prog X.w X.K X.mg X.base CX0 k f fd ps (i.sp X.K) ∧ PySem.W.keepIn X.K (.ref f) = true ∧ Binds X.K fd ps [] := by
  obtain ⟨fd, ps, k, h⟩ := h.ex
  rw [g.P, g.w, g.K, g.mg, g.base]
  exact ⟨fd, ps, k, h⟩
theorem HasK.at {Γ : Gam} {S : Sx} {X : Cx} (g : Good Γ S X) {x : Str} {ks : List Str} {i : FnI} (h : HasK Γ x ks i) :
    ∃ (f : Addr) (fd : FuncData) (ps : List Str) (k : Nat) (pf : List D → (Res → Prop) → Prop) (π : List Nat), k ≤ Γ.lv ∧ FnZ X.prog X.w X.K X.mg X.base CX0 k f fd ps (spP X.K pf) ∧ X.mg x = some (.ref f) ∧ PySem.W.keepIn X.K (.ref f) = true ∧
    (∀ (s : Shared) (ws : List Value), X.K.In s.heap → ws.length = ks.length → BindsTo s fd ⟨[], ks.zip ws⟩ (ps.zip (pick π ws))) ∧ i = .pu (fun ds R => ds.length = ks.length ∧ pf (pick π ds) R) := by
  obtain ⟨f, fd, ps, k, h⟩ := h.ex
  rw [g.P, g.w, g.K, g.mg, g.base]
  exact ⟨f, fd, ps, k, h⟩

theorem HasF.up {Γ Γ' : Gam} {f : Addr} {i : FnI} (h : HasF Γ f i) (e1 : Γ'.P = Γ.P) (e2 : Γ'.w = Γ.w) (e3 : Γ'.K = Γ.K) (e4 : Γ'.mg = Γ.mg) (e5 : Γ'.base = Γ.base) (hl : Γ.lv ≤ Γ'.lv) : HasF Γ' f i := by
  obtain ⟨fd, ps, k, h1, h2⟩ := h.ex
  exact ⟨fd, ps, k, Nat.le_trans h1 hl, by rw [e1, e2, e3, e4, e5]; exact h2⟩
theorem KTab.up {Γ Γ' : Gam} {x : Str} {t : List (Str × Nat × FnI)} (h : KTab Γ x t) (e1 : Γ'.P = Γ.P) (e2 : Γ'.w = Γ.w) (e3 : Γ'.K = Γ.K) (e4 : Γ'.mg = Γ.mg) (e5 : Γ'.base = Γ.base) (hl : Γ.lv ≤ Γ'.lv) : KTab Γ' x t := by
  obtain ⟨a, es, n, h1, h2, h3⟩ := h.ex
  refine ⟨a, es, n, by rw [e4]; exact h1, by rw [e3, e2]; exact h2, fun z => ⟨fun e => by rw [e3]; exact (h3 z).1 e, fun m i e => ?_⟩⟩
  obtain ⟨p, f, o, its, q, tk, q1, q2, q3, q4, q5, q6⟩ := (h3 z).2 m i e
  exact ⟨p, f, o, its, q, tk, by rw [e3]; exact q1, by rw [e3]; exact q2, q3, q4, q5, q6.up e1 e2 e3 e4 e5 hl⟩

/-! ### expressions -/
def wc (d : D) : W := fun ρ R => R (.d d) ρ
def wv (i : Nat) : W := fun ρ R => match ρ.v[i]? with
  | some (some (.d x)) => R (.d x) ρ
  | some (some _) => R (.p i) ρ
  | _ => False
def w1 (a : W) (f : F1) : W := fun ρ R => a ρ fun r ρ' => ∃ x, r.fz.look ρ' = some x ∧ f x fun z => R z ρ'
def w2 (a b : W) (f : F2) : W := fun ρ R => a ρ fun r1 ρ1 => b ρ1 fun r2 ρ2 => ∃ x y, r1.fz.look ρ2 = some x ∧ r2.fz.look ρ2 = some y ∧ f x y fun z => R z ρ2
def looks (ρ : S) : List O → Option (List D)
  | [] => some []
  | o :: os => match o.look ρ, looks ρ os with
    | some x, some xs => some (x :: xs)
    | _, _ => none
def fzs (ρ : S) : List O → S
  | [] => ρ
  | o :: os => fzs (o.fz ρ) os
def waNil : WA := fun ρ R => R [] ρ
def waCons (a : W) (t : WA) : WA := fun ρ R => a ρ fun r ρ1 => t ρ1 fun os ρ2 => R (r.fz :: os) ρ2
def wN (t : WA) (f : FN) : W := fun ρ R => t ρ fun os ρ' => ∃ ds, looks ρ' os = some ds ∧ f ds fun z => R z ρ'
/-- the parts of a new tuple or list: data that stay -/
def wTup (t : WA) : W := fun ρ R => t ρ fun os ρ' => ∃ ds, looks ρ' os = some ds ∧ ds.length ≤ sizeLine ∧ R (.d (.tup ds)) (fzs ρ' os)
def wLst (t : WA) : W := fun ρ R => t ρ fun os ρ' => ∃ ds, looks ρ' os = some ds ∧ ds.length ≤ sizeLine ∧ R (.l ds) (fzs ρ' os)
/-- truth -/
def tru : D → (Bool → Prop) → Prop
  | .non, K => K false
  | .bl b, K => K b
  | .int i, K => K (i != 0)
  | .str x, K => x.length ≤ sizeLine ∧ K ((x.length : Int) != 0)
  | .lst xs, K => K (!xs.isEmpty)
  | .tup xs, K => K (!xs.isEmpty)
  | .dic ks _, K => K (!ks.isEmpty)
  | _, _ => False
def wtv (a : W) : WT := fun ρ K => a ρ fun r ρ' => ∃ x, r.fz.look ρ' = some x ∧ tru x fun b => K b ρ'
def wtNot (t : WT) : WT := fun ρ K => t ρ fun b ρ' => K (!b) ρ'
def wtAnd (t u : WT) : WT := fun ρ K => t ρ fun b ρ' => if b = true then u ρ' K else K false ρ'
def wtOr (t u : WT) : WT := fun ρ K => t ρ fun b ρ' => if b = true then K true ρ' else u ρ' K
def wNot (a : W) : W := fun ρ R => a ρ fun r ρ' => ∃ x, r.fz.look ρ' = some x ∧ tru x fun b => R (.d (.bl (!b))) ρ'
def wAnd (a b : W) : W := fun ρ R => a ρ fun r ρ' => ∃ x, r.fz.look ρ' = some x ∧ tru x fun k => if k = true then b ρ' R else R (.d x) (r.fz.fz ρ')
def wOr (a b : W) : W := fun ρ R => a ρ fun r ρ' => ∃ x, r.fz.look ρ' = some x ∧ tru x fun k => if k = true then R (.d x) (r.fz.fz ρ') else b ρ' R
def wIf (t : WT) (a b : W) : W := fun ρ R => t ρ fun k ρ' => if k = true then a ρ' R else b ρ' R
/-- a op b op' c -/
def wChain (a b c : W) (f f' : F2) : W := fun ρ R => a ρ fun r1 ρ1 => b ρ1 fun r2 ρ2 => ∃ x y, r1.fz.look ρ2 = some x ∧ r2.fz.look ρ2 = some y ∧ f x y fun z => ∃ k, z = .d (.bl k) ∧
  if k = true then c ρ2 fun r3 ρ3 => ∃ y' u, r2.fz.look ρ3 = some y' ∧ r3.fz.look ρ3 = some u ∧ f' y' u fun z => R z ρ3 else R (.d (.bl false)) ρ2
/-- f(..), a def of the module -/
def wCall (dk : Option (Addr × Addr)) (i : FnI) (t : WA) : W := fun ρ R => t ρ fun os ρ' => ∃ ds, looks ρ' os = some ds ∧ match i with
  | .pu pf => pf ds fun z => R z (fzs ρ' os)
  | .dk pf => match dk, ds with
    | some (p, _), .cst (.ref q) :: es => p = q ∧ pf es ρ'.k fun z k => R z { fzs ρ' os with k := k }
    | _, _ => False

section
variable {Γ : Gam} {X : Cx} {dk : Option (Addr × Addr)} {a b c e : Expr} {es : List Expr} {wa wb wc' : W} {t : WA} {pos : Pos}
theorem je_weak {w w' : W} (h : JE X dk e w) (k : ∀ ρ R, w' ρ R → w ρ R) : JE X dk e w' := fun P fit => pe_weak (h P fit) fun σ H Q ⟨τ, Hs, ρ, R, E, q, z⟩ => ⟨τ, Hs, ρ, R, E, k _ _ q, z⟩
theorem je_int {i : Int} {j : Nat} : JE X dk (.Constant (.int i) j pos) (wc (.int i)) := fun P _ => pe_weak pe_int fun σ H Q ⟨τ, Hs, ρ, R, E, q, k⟩ => k Hs H ρ _ (.d (.int i)) (Same.refl _) E rfl q
theorem je_bl {i : Bool} {j : Nat} : JE X dk (.Constant (.bool i) j pos) (wc (.bl i)) := fun P _ => pe_weak pe_bl fun σ H Q ⟨τ, Hs, ρ, R, E, q, k⟩ => k Hs H ρ _ (.d (.bl i)) (Same.refl _) E rfl q
theorem je_non {j : Nat} : JE X dk (.Constant .none j pos) (wc .non) := fun P _ => pe_weak pe_non fun σ H Q ⟨τ, Hs, ρ, R, E, q, k⟩ => k Hs H ρ _ (.d .non) (Same.refl _) E rfl q
theorem je_str {x : Str} {j : Nat} : JE X dk (.Constant (.str x) j pos) (wc (.str x)) := fun P _ => pe_weak pe_str fun σ H Q ⟨τ, Hs, ρ, R, E, q, k⟩ => k Hs H ρ _ (.d (.str x)) (Same.refl _) E rfl q
theorem app_get {σ : L2.St} {τ : List V} {i : Nat} {v : V} (hi : i < σ.length) (h : (σ ++ τ.map some)[i]? = some (some v)) : σ[i]? = some (some v) := by rwa [List.getElem?_append_left hi] at h
theorem je_var {i : Nat} {x : Str} (hN : X.N[i]? = some x) (hv : Vis X.env.scope x) (hd : (x == ("__debug__" : Str)) = false) (hcd : (x == ("__classdict__" : Str)) = false) : JE X dk (.Name x pos) (wv i) := fun P _ => by
  refine ⟨fun pins s σ H Q I ⟨τ, Hs, ρ, R, E, q, k⟩ => ?_⟩
  have hi : i < σ.length := by rw [I.len]; exact (List.getElem?_eq_some_iff.mp hN).1
  refine (pe_var hN hv hd hcd).run pins s σ H Q I ?_
  unfold wv at q
  split at q
  · rename_i y e1
    obtain ⟨v, h1, h2⟩ := E.slot i _ e1
    exact ⟨v, app_get hi h1, k Hs H ρ v (.d y) (Same.refl _) E h2 q⟩
  · rename_i y hn e1
    obtain ⟨v, h1, h2⟩ := E.slot i _ e1
    refine ⟨v, app_get hi h1, k Hs H ρ v (.p i) (Same.refl _) E ⟨h1, y, e1, ?_⟩ q⟩
    cases y with
    | d z => exact absurd rfl (hn z)
    | _ => rfl
  · exact q.elim
/-- one operand -/
theorem op_go1 {P : Pm} {τ : List V} {Hs H : Hp} {σ : L2.St} {ρ : S} {v : V} {r : Res} {x : D} {f : F1} {g : V → Hp → VK → Prop} {R : Res → S → Prop} {Q : VK} (ho : Op1 P.K g f) (E : ER P Hs H (σ ++ τ.map some) ρ) (hr : RR P Hs H (σ ++ τ.map some) ρ v r) (hx : r.fz.look ρ = some x) (hf : f x fun z => R z ρ)
    (k : ∀ Hs' H' ρ' v r, Same Hs Hs' → ER P Hs' H' (σ ++ τ.map some) ρ' → RR P Hs' H' (σ ++ τ.map some) ρ' v r → R r ρ' → Q v H') : g v H Q := by
  obtain ⟨Hs1, g1, E1, q1⟩ := hr.fz E
  refine ho E1.sub E1.sysH (q1.rt E1 hx) hf fun z res H' nr hR => ?_
  obtain ⟨Hs2, g2, E2, q2⟩ := nr.er E1
  exact k Hs2 H' ρ z res (g1.trans g2) E2 q2 hR
theorem je_op1 {f : F1} {g : V → Hp → VK → Prop} (ho : Op1 X.K g f) (ha : JE X dk a wa) (pe : ∀ ta, PE X a ta → PE X e (fun σ H Q => ta σ H fun x H1 => g x H1 Q)) : JE X dk e (w1 wa f) := fun P fit =>
  pe_weak (pe _ (ha P fit)) fun σ H Q ⟨τ, Hs, ρ, R, E, q, k⟩ => ⟨τ, Hs, ρ, _, E, q, fun Hs1 H1 ρ1 v1 r1 g1 E1 q1 ⟨x, hx, hf⟩ => by
    exact op_go1 (fit.K ▸ ho) E1 q1 hx hf fun Hs' H' ρ' v r g E' => k Hs' H' ρ' v r (g1.trans g) E'⟩
theorem op_go2 {P : Pm} {τ : List V} {Hs Hs2 H2 : Hp} {σ : L2.St} {ρ2 : S} {v v2 : V} {r r2 : Res} {x y : D} {f : F2} {g : R2} {R : Res → S → Prop} {Q : VK} (ho : Op2 P.K g f) (q1 : RO P Hs (σ ++ τ.map some) v r.fz) (s12 : Same Hs Hs2)
    (E2 : ER P Hs2 H2 (σ ++ τ.map some) ρ2) (hr2 : RR P Hs2 H2 (σ ++ τ.map some) ρ2 v2 r2) (hx : r.fz.look ρ2 = some x) (hy : r2.fz.look ρ2 = some y) (hf : f x y fun z => R z ρ2)
    (k : ∀ Hs' H' v r, Same Hs2 Hs' → ER P Hs' H' (σ ++ τ.map some) ρ2 → RR P Hs' H' (σ ++ τ.map some) ρ2 v r → R r ρ2 → Q v H') : g v v2 H2 Q := by
  obtain ⟨Hs3, g3, E3, q3⟩ := hr2.fz E2
  refine ho E3.sub E3.sysH ((q1.mono (s12.trans g3)).rt E3 hx) (q3.rt E3 hy) hf fun z res H' nr hR => ?_
  obtain ⟨Hs4, g4, E4, q4⟩ := nr.er E3
  exact k Hs4 H' z res (g3.trans g4) E4 q4 hR
theorem je_op2 {f : F2} {g : R2} (ho : Op2 X.K g f) (ha : JE X dk a wa) (hb : JE X dk b wb) (pe : ∀ ta tb, PE X a ta → PE X b tb → PE X e (tOp g ta tb)) : JE X dk e (w2 wa wb f) := fun P fit =>
  pe_weak (pe _ _ (ha P fit) (hb P fit)) fun σ H Q ⟨τ, Hs, ρ, R, E, q, k⟩ => ⟨τ, Hs, ρ, _, E, q, fun Hs1 H1 ρ1 v1 r1 g1 E1 q1 h1 => by
    obtain ⟨Hs1', g1', E1', q1'⟩ := q1.fz E1
    exact ⟨τ, Hs1', ρ1, _, E1', h1, fun Hs2 H2 ρ2 v2 r2 g2 E2 q2 ⟨x, y, hx, hy, hf⟩ =>
      op_go2 (fit.K ▸ ho) q1' g2 E2 q2 hx hy hf fun Hs' H' v r g E' => k Hs' H' ρ2 v r (((g1.trans g1').trans g2).trans g) E'⟩⟩
theorem je_bin {op : Operator} (ha : JE X dk a wa) (hb : JE X dk b wb) : JE X dk (.BinOp a op b pos) (w2 wa wb (fBin op)) := by
  obtain ⟨r, h1, h2⟩ := bin_all (X := X) op
  exact je_op2 h2 ha hb fun ta tb pa pb => pe_op h1 pa pb
theorem bin_cmp (hu : X.A.units + 64 < cLine) : ∀ op : CmpOp, Bin X (compareOp op) (fCmp op)
  | .Eq => bin_eq hu
  | .NotEq => bin_ne hu
  | .Lt => bin_lt
  | .LtE => bin_le
  | .Gt => bin_gt
  | .GtE => bin_ge
  | .Is => bin_is false
  | .IsNot => bin_is true
  | .In => bin_in hu false
  | .NotIn => bin_in hu true
theorem je_cmp {op : CmpOp} (hu : X.A.units + 64 < cLine) (ha : JE X dk a wa) (hb : JE X dk b wb) (hm : behindInMarks op b = false) : JE X dk (.Compare a [op] [b] pos) (w2 wa wb (fCmp op)) := by
  obtain ⟨r, h1, h2⟩ := bin_cmp hu op
  exact je_op2 h2 ha hb fun ta tb pa pb => pe_cmpR h1 pa pb hm
theorem op1_neg : Op1 X.K (rU fun i => .int (-i)) fNeg := fun {Hs H x v R Q} e sy hx hf k => by
  cases x with
  | int i => cases (show v = _ from hx); exact ⟨i, rfl, k _ _ _ nr_int hf⟩
  | _ => exact hf.elim
theorem je_neg (ha : JE X dk a wa) : JE X dk (.UnaryOp .USub a pos) (w1 wa fNeg) := je_op1 op1_neg ha fun ta pa => pe_un un_neg pa
theorem je_ix (hu : X.A.units + 64 < cLine) (ha : JE X dk a wa) (hb : JE X dk b wb) (hs : PlainIx b) : JE X dk (.Subscript a b pos) (w2 wa wb fIx) := by
  obtain ⟨r, h1, h2⟩ := ixs_all (X := X) (by omega)
  exact je_op2 h2 ha hb fun ta tb pa pb => pe_ix h1 pa pb hs

/-! ### arguments -/
theorem ROs.mono {P : Pm} {Hs Hs' : Hp} {σ : L2.St} (g : Same Hs Hs') : ∀ {vs : List V} {os : List O}, ROs P Hs σ vs os → ROs P Hs' σ vs os
  | _, [], h => h
  | _, o :: os, ⟨v, r, e, h1, h2⟩ => ⟨v, r, e, h1.mono g, ROs.mono g h2⟩
theorem ja_nil : JA X dk [] waNil := fun P _ => pa_weak pa_nil fun σ H Q ⟨τ, Hs, ρ, R, E, q, k⟩ => k Hs H ρ [] [] (Same.refl _) E rfl q
theorem ja_cons (ha : JE X dk e wa) (hr : JA X dk es t) (hs : starEach (e :: es) X.env = (false, eval e X.env) :: starEach es X.env) : JA X dk (e :: es) (waCons wa t) := fun P fit =>
  pa_weak (pa_cons (ha P fit) (hr P fit) hs) fun σ H Q ⟨τ, Hs, ρ, R, E, q, k⟩ => ⟨τ, Hs, ρ, _, E, q, fun Hs1 H1 ρ1 v1 r1 g1 E1 q1 h1 => by
    obtain ⟨Hs1', g1', E1', q1'⟩ := q1.fz E1
    exact ⟨τ, Hs1', ρ1, _, E1', h1, fun Hs2 H2 ρ2 vs os g2 E2 q2 h2 => k Hs2 H2 ρ2 (v1 :: vs) (r1.fz :: os) ((g1.trans g1').trans g2) E2 ⟨v1, vs, rfl, q1'.mono g2, q2⟩ h2⟩⟩
theorem looks_rt {P : Pm} {Hs H : Hp} {σ : L2.St} {ρ : S} (E : ER P Hs H σ ρ) : ∀ {os : List O} {vs : List V} {ds : List D}, ROs P Hs σ vs os → looks ρ os = some ds → RtL P.K Hs H ds vs
  | [], _, _, h, e => by cases e; exact h
  | o :: os, _, ds, ⟨v, r, ev, h1, h2⟩, e => by
    unfold looks at e
    split at e
    · rename_i x xs e1 e2
      cases e
      exact ⟨v, r, ev, h1.rt E e1, looks_rt E h2 e2⟩
    · cases e
theorem fz_look {ρ : S} {o : O} {x : D} {i : Nat} (h : o.look ρ = some x) : o.look (ρ.fz i) = some x := by
  cases o with
  | d y => exact h
  | p j =>
    simp only [O.look] at h ⊢
    split at h
    · rename_i b hb
      cases h
      by_cases z : i = j
      · subst z
        rw [S.fz_of hb]
        have hl := (List.getElem?_eq_some_iff.mp hb).1
        simp [S.set, hl]
        rfl
      · have q : (ρ.fz i).v[j]? = ρ.v[j]? := by
          unfold S.fz
          split
          · rw [List.getElem?_set_ne z]
          · rfl
        rw [q, hb]
    · cases h
theorem ofz_look {ρ : S} {o o' : O} {x : D} (h : o.look ρ = some x) : o.look (o'.fz ρ) = some x := by
  cases o' with
  | d _ => exact h
  | p i => exact fz_look h
theorem looks_fz {ρ : S} {o : O} : ∀ {os : List O} {ds : List D}, looks ρ os = some ds → looks (o.fz ρ) os = some ds
  | [], _, e => e
  | o1 :: os, ds, e => by
    unfold looks at e ⊢
    split at e
    · rename_i x xs e1 e2
      rw [ofz_look e1, looks_fz e2]
      exact e
    · cases e
/-- all operands become data that stay -/
theorem fzs_er {P : Pm} {H : Hp} {σ : L2.St} : ∀ {os : List O} {vs : List V} {ds : List D} {Hs : Hp} {ρ : S}, ER P Hs H σ ρ → ROs P Hs σ vs os → looks ρ os = some ds → ∃ Hs', Same Hs Hs' ∧ ER P Hs' H σ (fzs ρ os) ∧ RpL P.K Hs' ds vs
  | [], _, _, Hs, ρ, E, h, e => by cases e; exact ⟨Hs, Same.refl _, E, h⟩
  | o :: os, _, ds, Hs, ρ, E, ⟨v, r, ev, h1, h2⟩, e => by
    have e0 := e
    unfold looks at e
    split at e
    · rename_i x xs e1 e2
      cases e
      obtain ⟨Hs1, g1, E1, q1⟩ := O.er E h1 e1
      obtain ⟨Hs2, g2, E2, q2⟩ := fzs_er E1 (h2.mono g1) (looks_fz e2)
      exact ⟨Hs2, g1.trans g2, E2, v, r, ev, Rp.mono g2 _ _ q1, q2⟩
    · cases e
theorem je_tup {k : Nat} (h : JA X dk es t) : JE X dk (.Tuple es k pos) (wTup t) := fun P fit => pe_weak (pe_tup (h P fit)) fun σ H Q ⟨τ, Hs, ρ, R, E, q, k⟩ => ⟨τ, Hs, ρ, _, E, q, fun Hs1 H1 ρ1 vs os g1 E1 q1 ⟨ds, e1, hl, hR⟩ => by
  obtain ⟨Hs2, g2, E2, q2⟩ := fzs_er E1 q1 e1
  refine ⟨by rw [← q2.length]; exact hl, fun p hp => ?_⟩
  obtain ⟨Hs3, g3, E3, q3⟩ := NR.er E2 (.nt hp q2)
  exact k Hs3 _ _ _ _ ((g1.trans g2).trans g3) E3 q3 hR⟩
theorem je_lst (h : JA X dk es t) : JE X dk (.List es pos) (wLst t) := fun P fit => pe_weak (pe_lst (h P fit)) fun σ H Q ⟨τ, Hs, ρ, R, E, q, k⟩ => ⟨τ, Hs, ρ, _, E, q, fun Hs1 H1 ρ1 vs os g1 E1 q1 ⟨ds, e1, hl, hR⟩ => by
  obtain ⟨Hs2, g2, E2, q2⟩ := fzs_er E1 q1 e1
  refine ⟨by rw [← q2.length]; exact hl, fun p hp => ?_⟩
  obtain ⟨Hs3, g3, E3, q3⟩ := NR.er E2 (.nl hp q2)
  exact k Hs3 _ _ _ _ ((g1.trans g2).trans g3) E3 q3 hR⟩
/-- an operation on arguments -/
theorem opN_go {P : Pm} {Hs H : Hp} {σ : L2.St} {ρ : S} {vs : List V} {os : List O} {ds : List D} {g : List V → Hp → VK → Prop} {f : FN} {R : Res → S → Prop} {Q : VK} (ho : OpN P.K g f) (E : ER P Hs H σ ρ) (q : ROs P Hs σ vs os) (e : looks ρ os = some ds) (hf : f ds fun z => R z ρ)
    (k : ∀ Hs' H' v r, Same Hs Hs' → ER P Hs' H' σ ρ → RR P Hs' H' σ ρ v r → R r ρ → Q v H') : g vs H Q :=
  ho E.sub E.sysH (looks_rt E q e) hf fun z res H' nr hR => by
    obtain ⟨Hs2, g2, E2, q2⟩ := nr.er E
    exact k Hs2 H' z res g2 E2 q2 hR
theorem je_fn {f : Value} {g : FN} (hf : Bfn X f g) (ha : JA X dk es t) (pe : ∀ r ta, CallR X f r → PA X es ta → PE X e (tCB r ta)) : JE X dk e (wN t g) := by
  obtain ⟨r, h1, h2⟩ := hf
  exact fun P fit => pe_weak (pe _ _ h1 (ha P fit)) fun σ H Q ⟨τ, Hs, ρ, R, E, q, k⟩ => ⟨τ, Hs, ρ, _, E, q, fun Hs1 H1 ρ1 vs os g1 E1 q1 ⟨ds, e1, hf⟩ =>
    opN_go (fit.K ▸ h2) E1 q1 e1 hf fun Hs' H' v r g E' => k Hs' H' ρ1 v r (g1.trans g) E'⟩
end
end Pz

set_option maxRecDepth 100000
set_option maxHeartbeats 4000000
/-! Pz, part 9: tests, choices, slices, calls. -/
namespace Pz
open PySem L2 PySem.Spec PyProof.Rows

/-- expressions whose test is their value's truth -/
def plainT : Expr → Bool
  | .Name .. => true
  | .Call .. => true
  | .Subscript .. => true
  | .BinOp .. => true
  | .IfExp .. => false
  | _ => false
theorem plainT_ok {a : Expr} (h : plainT a = true) (env : Env) : ∀ whole, isTrue a env whole = (do let v ← whole; standAt a.pos; holding [v] (truthy v)) := by
  cases a <;> first | (intro _; rfl) | (exact absurd h (by simp [plainT]))
theorem tru_of {K : PySem.W.Frag} {Hs H : Hp} {x : D} {v : V} {KK : Bool → Prop} (e : Same Hs H) (hx : Rt K Hs H x v) (h : tru x KK) : ∃ k, TruV K v H k ∧ KK k := by
  cases x with
  | non => cases (show v = _ from hx); exact ⟨_, rfl, h⟩
  | bl b => cases (show v = _ from hx); exact ⟨_, rfl, h⟩
  | int i => cases (show v = _ from hx); exact ⟨_, rfl, h⟩
  | str x => cases (show v = _ from hx); exact ⟨_, ⟨h.1, rfl⟩, h.2⟩
  | lst xs =>
    obtain ⟨a, vs, rfl, h1, h2⟩ := hx
    refine ⟨_, .inl ⟨vs, SqL.of h1, rfl⟩, ?_⟩
    have hl := h2.length
    cases xs <;> cases vs <;> first | exact h | simp at hl
  | tup xs =>
    obtain ⟨a, vs, rfl, h1, h2⟩ := hx
    refine ⟨_, .inr (.inl ⟨vs, same_t e h1, rfl⟩), ?_⟩
    have hl := h2.length
    cases xs <;> cases vs <;> first | exact h | simp at hl
  | dic ks xs =>
    obtain ⟨a, vs, rfl, h1, h3, h2⟩ := hx
    refine ⟨_, .inr (.inr ⟨_, h1, rfl⟩), ?_⟩
    have hl := h3.trans h2.length
    cases ks <;> cases vs <;> first | exact h | simp at hl
  | _ => exact h.elim

section
variable {X : Cx} {dk : Option (Addr × Addr)} {a b c e : Expr} {es rest : List Expr} {wa wb wc' : W} {t u : WT} {ta : WA} {pos : Pos}
theorem jt_tv (ha : JE X dk a wa) (he : plainT a = true) : JT X dk a (wtv wa) := fun P fit =>
  pt_weak (pt_truth (ha P fit) (plainT_ok he _)) fun σ H Q ⟨τ, Hs, ρ, R, E, q, k⟩ => ⟨τ, Hs, ρ, _, E, q, fun Hs1 H1 ρ1 v1 r1 g1 E1 q1 ⟨x, hx, ht⟩ => by
    obtain ⟨Hs2, g2, E2, q2⟩ := q1.fz E1
    obtain ⟨b, hb, hk⟩ := tru_of E2.sub (q2.rt E2 hx) ht
    rw [← fit.K]
    exact ⟨b, hb, k Hs2 H1 ρ1 b (g1.trans g2) E2 hk⟩⟩
/-- a comparison as a test -/
def wtCmp (a b : W) (f : F2) : WT := fun ρ K => a ρ fun r1 ρ1 => b ρ1 fun r2 ρ2 => ∃ x y, r1.fz.look ρ2 = some x ∧ r2.fz.look ρ2 = some y ∧ f x y fun z => ∃ k, z = .d (.bl k) ∧ K k ρ2
theorem jt_cmp {op : CmpOp} (hu : X.A.units + 64 < cLine) (ha : JE X dk a wa) (hb : JE X dk b wb) (hm : behindInMarks op b = false) : JT X dk (.Compare a [op] [b] pos) (wtCmp wa wb (fCmp op)) := fun P fit => by
  obtain ⟨r, h1, h2⟩ := bin_cmp hu op
  exact pt_weak (pt_cmpR h1 (ha P fit) (hb P fit) hm) fun σ H Q ⟨τ, Hs, ρ, R, E, q, k⟩ => ⟨τ, Hs, ρ, _, E, q, fun Hs1 H1 ρ1 v1 r1 g1 E1 q1 h1 => by
    obtain ⟨Hs1', g1', E1', q1'⟩ := q1.fz E1
    exact ⟨τ, Hs1', ρ1, _, E1', h1, fun Hs2 H2 ρ2 v2 r2 g2 E2 q2 ⟨x, y, hx, hy, hf⟩ =>
      op_go2 (R := fun z ρ2 => ∃ k, z = .d (.bl k) ∧ R k ρ2) (fit.K ▸ h2) q1' g2 E2 q2 hx hy hf fun Hs' H' v r g E' rr hR => by
        obtain ⟨kk, rfl, hk⟩ := hR
        cases (show v = _ from rr)
        exact ⟨kk, rfl, k Hs' H' ρ2 kk (((g1.trans g1').trans g2).trans g) E' hk⟩⟩⟩
theorem jt_not (ha : JT X dk a t) : JT X dk (.UnaryOp .Not a pos) (wtNot t) := fun P fit =>
  pt_weak (pt_not (ha P fit)) fun σ H Q ⟨τ, Hs, ρ, R, E, q, k⟩ => ⟨τ, Hs, ρ, _, E, q, fun Hs1 H1 ρ1 b g1 E1 h => k Hs1 H1 ρ1 _ g1 E1 h⟩
theorem jt_of (h : JW X dk a t) : JT X dk a t := fun P fit => (h P fit).pt
theorem jw_and1 (ha : JT X dk a t) : JW X dk (.BoolOp .And [a] pos) t := fun P fit => pw_and1 (ha P fit)
theorem jw_or1 (ha : JT X dk a t) : JW X dk (.BoolOp .Or [a] pos) t := fun P fit => pw_or1 (ha P fit)
theorem jw_and (ha : JT X dk a t) (hb : JW X dk (.BoolOp .And (b :: rest) pos) u) : JW X dk (.BoolOp .And (a :: b :: rest) pos) (wtAnd t u) := fun P fit =>
  pw_weak (pw_and (ha P fit) (hb P fit)) fun σ H Q ⟨τ, Hs, ρ, R, E, q, k⟩ => ⟨τ, Hs, ρ, _, E, q, fun Hs1 H1 ρ1 b g1 E1 h => by
    cases b with
    | true => exact ⟨τ, Hs1, ρ1, _, E1, h, fun Hs2 H2 ρ2 b g2 E2 h2 => k Hs2 H2 ρ2 b (g1.trans g2) E2 h2⟩
    | false => exact k Hs1 H1 ρ1 false g1 E1 h⟩
theorem jw_or (ha : JT X dk a t) (hb : JW X dk (.BoolOp .Or (b :: rest) pos) u) : JW X dk (.BoolOp .Or (a :: b :: rest) pos) (wtOr t u) := fun P fit =>
  pw_weak (pw_or (ha P fit) (hb P fit)) fun σ H Q ⟨τ, Hs, ρ, R, E, q, k⟩ => ⟨τ, Hs, ρ, _, E, q, fun Hs1 H1 ρ1 b g1 E1 h => by
    cases b with
    | true => exact k Hs1 H1 ρ1 true g1 E1 h
    | false => exact ⟨τ, Hs1, ρ1, _, E1, h, fun Hs2 H2 ρ2 b g2 E2 h2 => k Hs2 H2 ρ2 b (g1.trans g2) E2 h2⟩⟩
/-! .. as values -/
theorem je_one {op} (ha : JE X dk a wa) : JE X dk (.BoolOp op [a] pos) wa := fun P fit => pe_one (ha P fit)
theorem je_and (ha : JE X dk a wa) (hb : JE X dk (.BoolOp .And (b :: rest) pos) wb) : JE X dk (.BoolOp .And (a :: b :: rest) pos) (wAnd wa wb) := fun P fit =>
  pe_weak (pe_andT (ha P fit) (hb P fit)) fun σ H Q ⟨τ, Hs, ρ, R, E, q, k⟩ => ⟨τ, Hs, ρ, _, E, q, fun Hs1 H1 ρ1 v1 r1 g1 E1 q1 ⟨x, hx, ht⟩ => by
    obtain ⟨Hs2, g2, E2, q2⟩ := q1.fz E1
    obtain ⟨b, hb, hk⟩ := tru_of E2.sub (q2.rt E2 hx) ht
    rw [← fit.K]
    refine ⟨b, hb, ?_⟩
    cases b with
    | true => exact ⟨τ, Hs2, ρ1, _, E2, hk, fun Hs3 H3 ρ3 v3 r3 g3 E3 q3 h3 => k Hs3 H3 ρ3 v3 r3 ((g1.trans g2).trans g3) E3 q3 h3⟩
    | false =>
      obtain ⟨Hs3, g3, E3, q3⟩ := O.er E2 q2 hx
      exact k Hs3 H1 _ v1 (.d x) ((g1.trans g2).trans g3) E3 q3 hk⟩
theorem je_or (ha : JE X dk a wa) (hb : JE X dk (.BoolOp .Or (b :: rest) pos) wb) : JE X dk (.BoolOp .Or (a :: b :: rest) pos) (wOr wa wb) := fun P fit =>
  pe_weak (pe_orT (ha P fit) (hb P fit)) fun σ H Q ⟨τ, Hs, ρ, R, E, q, k⟩ => ⟨τ, Hs, ρ, _, E, q, fun Hs1 H1 ρ1 v1 r1 g1 E1 q1 ⟨x, hx, ht⟩ => by
    obtain ⟨Hs2, g2, E2, q2⟩ := q1.fz E1
    obtain ⟨b, hb, hk⟩ := tru_of E2.sub (q2.rt E2 hx) ht
    rw [← fit.K]
    refine ⟨b, hb, ?_⟩
    cases b with
    | false => exact ⟨τ, Hs2, ρ1, _, E2, hk, fun Hs3 H3 ρ3 v3 r3 g3 E3 q3 h3 => k Hs3 H3 ρ3 v3 r3 ((g1.trans g2).trans g3) E3 q3 h3⟩
    | true =>
      obtain ⟨Hs3, g3, E3, q3⟩ := O.er E2 q2 hx
      exact k Hs3 H1 _ v1 (.d x) ((g1.trans g2).trans g3) E3 q3 hk⟩
theorem je_not (ha : JE X dk a wa) : JE X dk (.UnaryOp .Not a pos) (wNot wa) := fun P fit =>
  pe_weak (pe_notT (ha P fit)) fun σ H Q ⟨τ, Hs, ρ, R, E, q, k⟩ => ⟨τ, Hs, ρ, _, E, q, fun Hs1 H1 ρ1 v1 r1 g1 E1 q1 ⟨x, hx, ht⟩ => by
    obtain ⟨Hs2, g2, E2, q2⟩ := q1.fz E1
    obtain ⟨b, hb, hk⟩ := tru_of E2.sub (q2.rt E2 hx) ht
    rw [← fit.K]
    exact ⟨b, hb, k Hs2 H1 ρ1 _ (.d (.bl (!b))) (g1.trans g2) E2 rfl hk⟩⟩
theorem je_if (hc : JT X dk c t) (ha : JE X dk a wa) (hb : JE X dk b wb) : JE X dk (.IfExp c a b pos) (wIf t wa wb) := fun P fit =>
  pe_weak (pe_ifExp (hc P fit) (ha P fit) (hb P fit)) fun σ H Q ⟨τ, Hs, ρ, R, E, q, k⟩ => ⟨τ, Hs, ρ, _, E, q, fun Hs1 H1 ρ1 b g1 E1 h => by
    cases b with
    | true => exact ⟨τ, Hs1, ρ1, _, E1, h, fun Hs3 H3 ρ3 v3 r3 g3 E3 q3 h3 => k Hs3 H3 ρ3 v3 r3 (g1.trans g3) E3 q3 h3⟩
    | false => exact ⟨τ, Hs1, ρ1, _, E1, h, fun Hs3 H3 ρ3 v3 r3 g3 E3 q3 h3 => k Hs3 H3 ρ3 v3 r3 (g1.trans g3) E3 q3 h3⟩⟩
/-- a op b op' c -/
theorem je_chain {op op' : CmpOp} (hu : X.A.units + 64 < cLine) (ha : JE X dk a wa) (hb : JE X dk b wb) (hc : JE X dk c wc') (hm : lastMarks [op, op'] [b, c] = false) : JE X dk (.Compare a [op, op'] [b, c] pos) (wChain wa wb wc' (fCmp op) (fCmp op')) := fun P fit => by
  obtain ⟨r, h1, h2⟩ := bin_cmp hu op
  obtain ⟨r', h1', h2'⟩ := bin_cmp hu op'
  exact pe_weak (pe_chain h1 h1' (ha P fit) (hb P fit) (hc P fit) hm) fun σ H Q ⟨τ, Hs, ρ, R, E, q, k⟩ => ⟨τ, Hs, ρ, _, E, q, fun Hs1 H1 ρ1 v1 r1 g1 E1 q1 h1 => by
    obtain ⟨Hs1', g1', E1', q1'⟩ := q1.fz E1
    refine ⟨τ, Hs1', ρ1, _, E1', h1, fun Hs2 H2 ρ2 v2 r2 g2 E2 q2 ⟨x, y, hx, hy, hf⟩ => ?_⟩
    obtain ⟨Hs2', g2', E2', q2'⟩ := q2.fz E2
    refine (fit.K ▸ h2 : Op2 P.K r _) E2'.sub E2'.sysH ((q1'.mono (g2.trans g2')).rt E2' hx) (q2'.rt E2' hy) hf fun z res H' nr hR => ?_
    obtain ⟨kk, rfl, hk⟩ := hR
    cases nr with
    | old rr =>
    cases (show z = _ from rr)
    refine ⟨kk, rfl, ?_⟩
    cases kk with
    | false => exact k Hs2' H2 ρ2 _ (.d (.bl false)) (((g1.trans g1').trans g2).trans g2') E2' rfl hk
    | true =>
      exact ⟨τ, Hs2', ρ2, _, E2', hk, fun Hs3 H3 ρ3 v3 r3 g3 E3 q3 ⟨y', u, hy', hu', hf'⟩ =>
        op_go2 (fit.K ▸ h2') q2' g3 E3 q3 hy' hu' hf' fun Hs' H' v r g E' => k Hs' H' ρ3 v r (((((g1.trans g1').trans g2).trans g2').trans g3).trans g) E'⟩⟩
/-- .. as a test -/
def wtChain (a b c : W) (f f' : F2) : WT := fun ρ K => wChain a b c f f' ρ fun r ρ' => ∃ k, r = .d (.bl k) ∧ K k ρ'
theorem jt_chain {op op' : CmpOp} (hu : X.A.units + 64 < cLine) (ha : JE X dk a wa) (hb : JE X dk b wb) (hc : JE X dk c wc') (hm : lastMarks [op, op'] [b, c] = false) : JT X dk (.Compare a [op, op'] [b, c] pos) (wtChain wa wb wc' (fCmp op) (fCmp op')) := fun P fit => by
  obtain ⟨r, h1, h2⟩ := bin_cmp hu op
  obtain ⟨r', h1', h2'⟩ := bin_cmp hu op'
  exact pt_weak (pt_chain h1 h1' (ha P fit) (hb P fit) (hc P fit) hm) fun σ H Q ⟨τ, Hs, ρ, R, E, q, k⟩ => ⟨τ, Hs, ρ, _, E, q, fun Hs1 H1 ρ1 v1 r1 g1 E1 q1 h1 => by
    obtain ⟨Hs1', g1', E1', q1'⟩ := q1.fz E1
    refine ⟨τ, Hs1', ρ1, _, E1', h1, fun Hs2 H2 ρ2 v2 r2 g2 E2 q2 ⟨x, y, hx, hy, hf⟩ => ?_⟩
    obtain ⟨Hs2', g2', E2', q2'⟩ := q2.fz E2
    refine (fit.K ▸ h2 : Op2 P.K r _) E2'.sub E2'.sysH ((q1'.mono (g2.trans g2')).rt E2' hx) (q2'.rt E2' hy) hf fun z res H' nr hR => ?_
    obtain ⟨kk, rfl, hk⟩ := hR
    cases nr with
    | old rr =>
    cases (show z = _ from rr)
    refine ⟨kk, rfl, ?_⟩
    cases kk with
    | false =>
      obtain ⟨j, ej, hj⟩ := hk
      cases ej
      exact ⟨false, rfl, k Hs2' H2 ρ2 _ (((g1.trans g1').trans g2).trans g2') E2' hj⟩
    | true =>
      exact ⟨τ, Hs2', ρ2, _, E2', hk, fun Hs3 H3 ρ3 v3 r3 g3 E3 q3 ⟨y', u, hy', hu', hf'⟩ =>
        op_go2 (R := fun z ρ2 => ∃ k, z = .d (.bl k) ∧ R k ρ2) (fit.K ▸ h2') q2' g3 E3 q3 hy' hu' hf' fun Hs' H' v r g E' rr ⟨j, ej, hj⟩ => by
          subst ej
          cases (show v = _ from rr)
          exact ⟨j, rfl, k Hs' H' ρ3 j (((((g1.trans g1').trans g2).trans g2').trans g3).trans g) E' hj⟩⟩⟩

/-! ### slices -/
abbrev WO := S → (Option Int → S → Prop) → Prop
def liftO (P : Pm) (w : WO) : TO := fun σ H Q => ∃ (τ : List V) (Hs : Hp) (ρ : S) (R : Option Int → S → Prop), ER P Hs H (σ ++ τ.map some) ρ ∧ w ρ R ∧ ∀ Hs' H' ρ' b, Same Hs Hs' → ER P Hs' H' (σ ++ τ.map some) ρ' → R b ρ' → Q b H'
def JO (X : Cx) (dk : Option (Addr × Addr)) (e : Option Expr) (w : WO) : Prop := ∀ P, Fit X dk P → PO X e (liftO P w)
theorem po_weak {X : Cx} {e : Option Expr} {t t' : TO} (h : PO X e t) (k : ∀ σ H Q, t' σ H Q → t σ H Q) : PO X e t' := ⟨fun pins s σ H Q I q => h.run pins s σ H Q I (k _ _ _ q)⟩
def woNo : WO := fun ρ R => R none ρ
def woE (a : W) : WO := fun ρ R => a ρ fun r ρ' => ∃ i, r = .d (.int i) ∧ R (some i) ρ'
theorem jo_no : JO X dk none woNo := fun P fit => po_weak po_none fun σ H Q ⟨τ, Hs, ρ, R, E, q, k⟩ => k Hs H ρ none (Same.refl _) E q
theorem jo_e (ha : JE X dk a wa) : JO X dk (some a) (woE wa) := fun P fit => po_weak (po_some (ha P fit)) fun σ H Q ⟨τ, Hs, ρ, R, E, q, k⟩ => ⟨τ, Hs, ρ, _, E, q, fun Hs1 H1 ρ1 v1 r1 g1 E1 q1 ⟨i, e, h⟩ => by
  subst e
  exact ⟨i, q1, k Hs1 H1 ρ1 (some i) g1 E1 h⟩⟩
def wSl (a : W) (lo hi : WO) : W := fun ρ R => a ρ fun r ρ1 => lo ρ1 fun l ρ2 => hi ρ2 fun u ρ3 => ∃ x, r.fz.look ρ3 = some x ∧ fSl x l u fun z => R z ρ3
theorem je_sl {lo hi : Option Expr} {wl wh : WO} {p2 : Pos} (ha : JE X dk a wa) (hl : JO X dk lo wl) (hh : JO X dk hi wh) : JE X dk (.Subscript a (.Slice lo hi none p2) pos) (wSl wa wl wh) := fun P fit =>
  pe_weak (pe_slice sl3 (ha P fit) (hl P fit) (hh P fit)) fun σ H Q ⟨τ, Hs, ρ, R, E, q, k⟩ => ⟨τ, Hs, ρ, _, E, q, fun Hs1 H1 ρ1 v1 r1 g1 E1 q1 h1 => by
    obtain ⟨Hs1', g1', E1', q1'⟩ := q1.fz E1
    exact ⟨τ, Hs1', ρ1, _, E1', h1, fun Hs2 H2 ρ2 l g2 E2 h2 => ⟨τ, Hs2, ρ2, _, E2, h2, fun Hs3 H3 ρ3 u g3 E3 ⟨x, hx, hf⟩ => by
      rw [← fit.K]
      refine sl_op E3.sub ((q1'.mono (g2.trans g3)).rt E3 hx) hf fun z res H' nr hR => ?_
      obtain ⟨Hs4, g4, E4, q4⟩ := nr.er E3
      exact k Hs4 H' ρ3 z res ((((g1.trans g1').trans g2).trans g3).trans g4) E4 q4 hR⟩⟩⟩
end

/-! ### calls of the module's defs -/
section
variable {Γ : Gam} {Sc : Sx} {X : Cx} {dk : Option (Addr × Addr)} {e : Expr} {es : List Expr} {t : WA} {pos p : Pos} {x : Str}
/-- behind a call -/
theorem call_back {P : Pm} {Hs Hs' H H' : Hp} {σ : L2.St} {ρ : S} {k : Nat} {v : V} {r : Res} (E : ER P Hs H σ ρ) (g : Same Hs Hs') (s : Same Hs' H') (kp : ∀ b o, H b = some o → ¬ inDk P.dk b → H' b = some o) (old : ∀ b, H b ≠ none → Hs b = none → Hs' b = none) (hd : Dk P.dk Hs' H' k)
    (rf : RF P.K Hs' H H' v r) : ER P Hs' H' σ { ρ with k := k } ∧ RR P Hs' H' σ { ρ with k := k } v r := by
  have E' := E.called g s kp old hd
  refine ⟨E', ?_⟩
  have h0 : ∀ a, H a = none → P.H0 a = none := fun a ha => by
    cases q : P.H0 a with
    | none => rfl
    | some u =>
      by_cases z : inDk P.dk a
      · obtain ⟨o, e⟩ := E.dk.there z; rw [ha] at e; cases e
      · have := E.keep a u q z; rw [ha] at this; cases this
  have hf : ∀ a, H a = none → Fresh σ { ρ with k := k } (.ref a) := fun a ha i x e hx hi => by
    obtain ⟨w, h1, h2⟩ := E.slot i x e
    rw [hi] at h1; cases h1
    obtain ⟨a', o', q1, _, _, q2⟩ := h2.ref hx
    cases q1
    rw [ha] at q2; cases q2
  cases r with
  | d x => exact rf
  | l xs => obtain ⟨a, vs, rfl, h1, h2, h3, h4⟩ := rf; exact ⟨⟨a, vs, rfl, h2, h0 a h1, h3, h4⟩, hf a h1⟩
  | m ks xs => obtain ⟨a, vs, rfl, h1, h2, h3, h5, h4⟩ := rf; exact ⟨⟨a, vs, rfl, h2, h0 a h1, h3, h5, h4⟩, hf a h1⟩
  | p i => exact rf.elim
theorem call_go {P : Pm} {i : FnI} {τ : List V} {Hs H : Hp} {σ : L2.St} {ρ : S} {vs : List V} {os : List O} {R : Res → S → Prop} {Q : VK} {E0 : XK} (E : ER P Hs H (σ ++ τ.map some) ρ) (q : ROs P Hs (σ ++ τ.map some) vs os)
    (h : ∃ ds, looks ρ os = some ds ∧ match i with
      | .pu pf => pf ds fun z => R z (fzs ρ os)
      | .dk pf => match P.dk, ds with
        | some (p, _), .cst (.ref q) :: es => p = q ∧ pf es ρ.k fun z k => R z { fzs ρ os with k := k }
        | _, _ => False)
    (k : ∀ Hs' H' ρ' v r, Same Hs Hs' → ER P Hs' H' (σ ++ τ.map some) ρ' → RR P Hs' H' (σ ++ τ.map some) ρ' v r → R r ρ' → Q v H') : i.sp P.K vs H Q E0 := by
  obtain ⟨ds, e1, h⟩ := h
  obtain ⟨Hs2, g2, E2, q2⟩ := fzs_er E q e1
  have kfz : (fzs ρ os).k = ρ.k := by
    have : ∀ (os : List O) (ρ : S), (fzs ρ os).k = ρ.k := by
      intro os
      induction os with
      | nil => intro ρ; rfl
      | cons o os ih =>
        intro ρ
        show (fzs (o.fz ρ) os).k = ρ.k
        rw [ih]
        cases o with
        | d x => rfl
        | p i => exact S.fz_k i
    exact this os ρ
  cases i with
  | pu pf =>
    refine ⟨Hs2, ds, fun z => R z (fzs ρ os), E2.sub, Sys.mono E2.grow E2.sys, q2, h, fun Hs' H' v r g s s' old rf hR => ?_⟩
    have hd : Dk P.dk Hs' H' (fzs ρ os).k := E2.dk.to (fun b hb => by
      obtain ⟨o, q⟩ := E2.dk.there hb
      exact old b (by rw [q]; exact fun z => by cases z) (E2.dk.nos hb)) fun b hb => by
      obtain ⟨o, q⟩ := E2.dk.there hb
      rw [q]; exact s' b o q
    obtain ⟨E3, q3⟩ := call_back E2 g s (fun b o e _ => s' b o e) old hd rf
    exact k Hs' H' _ v r (g2.trans g) E3 q3 hR
  | dk pf =>
    have hdk := E2.dk
    have hP : P.dk = P.dk := rfl
    revert h
    generalize hq : P.dk = dq at hP
    intro h
    match dq, ds, h with
    | some (p, c), .cst (.ref q') :: es, ⟨e, h⟩ =>
      subst e
      obtain ⟨v1, ws, rfl, r1, r2⟩ := q2
      cases (show v1 = _ from r1)
      rw [hq] at hdk
      refine ⟨p, c, ws, ρ.k, Hs2, es, fun z k => R z { fzs ρ os with k := k }, rfl, E2.sub, Sys.mono E2.grow E2.sys, by rw [← kfz]; exact hdk, r2, h, fun Hs' H' v r k' g s hd kp old rf hR => ?_⟩
      obtain ⟨E3, q3⟩ := call_back (k := k') E2 g s (fun b o e z => kp b o e (by rw [hq] at z; exact z)) old (by rw [hq]; exact hd) rf
      exact k Hs' H' _ v r (g2.trans g) E3 q3 hR
theorem je_call {i : FnI} (G : Good Γ Sc X) (h : Has Γ x i) (hg : Gl X x) (hdb : (x == ("__debug__" : Str)) = false) (ha : JA X dk (e :: es) t)
    (he : starEach (e :: es) X.env = (false, eval e X.env) :: starEach es X.env) (hpl : (backTo pos (starEach es X.env)).any (·.1) = false) : JE X dk (.Call (.Name x p) (e :: es) [] pos) (wCall dk i t) := fun P fit => by
  obtain ⟨f, fd, ps, k, hk, F, hm, hK, hb⟩ := Has.at G h
  refine pe_weak (pe_callZ (E := fun _ _ _ => False) (F.mono hk) G.gd G.room hg hm hK hb (fun _ _ _ _ _ _ _ z => z.elim) (ha P fit) hdb he hpl) fun σ H Q ⟨τ, Hs, ρ, R, E, q, kk⟩ => ⟨τ, Hs, ρ, _, E, q, fun Hs1 H1 ρ1 vs os g1 E1 q1 h1 => ?_⟩
  rw [← fit.K]
  refine call_go E1 q1 (by rw [fit.dk]; exact h1) fun Hs' H' ρ' v r g E' rr hR => kk Hs' H' ρ' v r (g1.trans g) E' rr hR
/-! ### .. by keywords -/
theorem RpL.pick {K : PySem.W.Frag} {H : Hp} {ds : List D} {vs : List V} (h : RpL K H ds vs) : ∀ π : List Nat, RpL K H (Pz.pick π ds) (Pz.pick π vs)
  | [] => rfl
  | i :: π => by
    have ih := RpL.pick h π
    unfold Pz.pick at ih ⊢
    by_cases hi : i < ds.length
    · obtain ⟨v, h1, h2⟩ := h.get (i := i) (d := ds[i]) (by simp [hi])
      rw [List.filterMap_cons_some (b := ds[i]) (by simp [hi]), List.filterMap_cons_some h1]
      exact ⟨v, _, rfl, h2, ih⟩
    · rw [List.filterMap_cons_none (by simp; omega), List.filterMap_cons_none (by have := h.length; simp; omega)]
      exact ih
theorem Vals.pick {vs : List V} {us : List Value} (h : Vals vs us) : ∀ π : List Nat, Vals (Pz.pick π vs) (Pz.pick π us)
  | [] => .nil
  | i :: π => by
    have ih := Vals.pick h π
    unfold Pz.pick at ih ⊢
    by_cases hi : i < vs.length
    · obtain ⟨u, h1, h2⟩ := h.get (x := vs[i]) (show vs[i]? = some vs[i] by simp [hi])
      rw [List.filterMap_cons_some (b := vs[i]) (by simp [hi]), List.filterMap_cons_some h1]
      exact .cons h2 ih
    · rw [List.filterMap_cons_none (by simp; omega), List.filterMap_cons_none (by have := h.length; simp; omega)]
      exact ih
def JK (X : Cx) (dk : Option (Addr × Addr)) (es : List Keyword) (w : WA) : Prop := ∀ P, Fit X dk P → PK X es (liftA P w)
theorem pk_weak {X : Cx} {es : List Keyword} {t t' : TA} (h : PK X es t) (k : ∀ σ H Q, t' σ H Q → t σ H Q) : PK X es t' := ⟨fun pos pins s σ H Q I q => h.run pos pins s σ H Q I (k _ _ _ q)⟩
theorem jk_nil : JK X dk [] waNil := fun P _ => pk_weak pk_nil fun σ H Q ⟨τ, Hs, ρ, R, E, q, k⟩ => k Hs H ρ [] [] (Same.refl _) E rfl q
theorem jk_cons {wa : W} {kws : List Keyword} {nm : Option Str} {kp : Pos} (ha : JE X dk e wa) (hr : JK X dk kws t) : JK X dk (⟨nm, e, kp⟩ :: kws) (waCons wa t) := fun P fit =>
  pk_weak (pk_cons (ha P fit) (hr P fit)) fun σ H Q ⟨τ, Hs, ρ, R, E, q, k⟩ => ⟨τ, Hs, ρ, _, E, q, fun Hs1 H1 ρ1 v1 r1 g1 E1 q1 h1 => by
    obtain ⟨Hs1', g1', E1', q1'⟩ := q1.fz E1
    exact ⟨τ, Hs1', ρ1, _, E1', h1, fun Hs2 H2 ρ2 vs os g2 E2 q2 h2 => k Hs2 H2 ρ2 (v1 :: vs) (r1.fz :: os) ((g1.trans g1').trans g2) E2 ⟨v1, vs, rfl, q1'.mono g2, q2⟩ h2⟩⟩
theorem kw_names {env : Env} {pos : Pos} : ∀ {kws : List Keyword} {ks : List Str}, kws.map (·.arg) = ks.map some → (backToKw pos (keywordEach kws env)).all (·.1.isSome) = true ∧ (backToKw pos (keywordEach kws env)).filterMap (·.1) = ks ∧ (backToKw pos (keywordEach kws env)).any (·.1.isNone) = false
  | [], [], _ => ⟨rfl, rfl, rfl⟩
  | k :: kws, n :: ks, h => by
    simp only [List.map_cons, List.cons.injEq] at h
    obtain ⟨i1, i2, i3⟩ := kw_names (env := env) (pos := pos) h.2
    cases k with
    | mk nm e p =>
      have h1 : nm = some n := h.1
      subst h1
      refine ⟨by simpa [backToKw, keywordEach] using i1, ?_, by simpa [backToKw, keywordEach] using i3⟩
      have e : backToKw pos (keywordEach (⟨some n, e, p⟩ :: kws) env) = (some n, do let v ← eval e env; standAt pos; pure v) :: backToKw pos (keywordEach kws env) := rfl
      rw [e]
      exact congrArg (n :: ·) i2
  | [], _ :: _, h => by simp at h
  | _ :: _, [], h => by simp at h
theorem je_kcall {i : FnI} {ks : List Str} {kws : List Keyword} (G : Good Γ Sc X) (h : HasK Γ x ks i) (hg : Gl X x) (hdb : (x == ("__debug__" : Str)) = false) (ha : JK X dk kws t) (hn : kws.map (·.arg) = ks.map some) : JE X dk (.Call (.Name x p) [] kws pos) (wCall dk i t) := fun P fit => by
  obtain ⟨f, fd, ps, k, pf, π, hk, F, hm, hK, hb, rfl⟩ := HasK.at G h
  obtain ⟨n1, n2, n3⟩ := kw_names (env := X.env) (pos := pos) hn
  have F' := F.mono hk
  refine ⟨fun pins s σ H Q I ⟨τ, Hs, ρ, R, E, q, kk⟩ => ?_⟩
  refine wpAny_Call_Name_kw (ld_glob I hg hm ?_ hdb)
  refine PySem.W.callWith_KW0 (h₀ := X.base) I.ok.mod.kin hK n1 ?_ (by rw [n3]; rfl)
  refine thn ((ha P fit).run pos pins s σ H (fun vs H1 => spP X.K (fun ds R => ds.length = ks.length ∧ pf (pick π ds) R) vs H1 Q fun _ _ _ => False) I ⟨τ, Hs, ρ, _, E, q, fun Hs1 H1 ρ1 vs os g1 E1 q1 h1 => ?_⟩) fun ws s1 ⟨vs, H1, I1, r, hsp⟩ => ⟨I1.kIn, ?_⟩
  · rw [← fit.K]
    exact call_go (i := .pu _) (E0 := fun _ _ _ => False) E1 q1 (by rw [fit.dk]; exact h1) fun Hs' H' ρ' v r g E' rr hR => kk Hs' H' ρ' v r (g1.trans g) E' rr hR
  · rw [n2]
    obtain ⟨Hs1, ds, R1, s1', sy, q1, ⟨hl, q2⟩, q3⟩ := hsp
    have hsp' : spP X.K pf (pick π vs) H1 Q fun _ _ _ => False := ⟨Hs1, pick π ds, R1, s1', sy, q1.pick π, q2, q3⟩
    have hwl : ws.length = ks.length := by rw [← r.length, ← q1.length]; exact hl
    refine wpAny_call (codeAny_mono (F'.run X.A X.stack s1 H1 ⟨[], ks.zip ws⟩ (pick π ws) (pick π vs) Q _ G.gd G.room I1.env0 (hb s1 ws I1.kIn hwl) (Vals.pick r π) hsp') fun res s' hq => ?_)
    match res, hq with
    | .error e, hq => exact hq.elim
    | .ok (.ret u), hq => exact I1.after hq
    | .ok .next, hq => exact hq.elim
    | .ok .brk, hq => exact hq.elim
    | .ok .cont, hq => exact hq.elim
end
end Pz

set_option maxRecDepth 100000
set_option maxHeartbeats 4000000
/-! Pz, part 10: targets, walks, comprehensions. -/
namespace Pz
open PySem L2 PySem.Spec PyProof.Rows

theorem pe_weakL {X : Cx} {e : Expr} {t t' : TE} (h : PE X e t) (k : ∀ σ H Q, σ.length = X.N.length → t' σ H Q → t σ H Q) : PE X e t' := ⟨fun pins s σ H Q I q => h.run pins s σ H Q I (k _ _ _ I.len q)⟩
theorem ps_weakL {X : Cx} {st : Stmt} {t t' : TS} (h : PS X st t) (k : ∀ D σ H, σ.length = X.N.length → t' D σ H → t D σ H) : PS X st t' := ⟨fun pins s σ H D I q => h.run pins s σ H D I (k _ _ _ I.len q)⟩

/-! ### one more object is held as it is -/
def Pm.hold (P : Pm) (a : Addr) (o : HO) : Pm := { P with H0 := upd P.H0 a o }
theorem hold_of {P : Pm} {Hs H : Hp} {σ : L2.St} {ρ : S} {a : Addr} {o : HO} (E : ER P Hs H σ ρ) (hs : Hs a = none) (h0 : P.H0 a = none) (ha : H a = some o) (hf : Fresh σ ρ (.ref a)) : ER (P.hold a o) Hs H σ ρ where
  sub := E.sub
  grow := E.grow
  keep := fun b u e n => by
    by_cases z : b = a
    · subst z
      rw [show (P.hold b o).H0 b = some o from upd_same] at e
      cases e; exact ha
    · exact E.keep b u (by rwa [show (P.hold a o).H0 b = P.H0 b from upd_ne z] at e) n
  old := fun b h1 h2 => by
    by_cases z : b = a
    · subst z; exact hs
    · exact E.old b (by rwa [show (P.hold a o).H0 b = P.H0 b from upd_ne z] at h1) h2
  dk := E.dk
  dkin := fun b hb => by
    by_cases z : b = a
    · subst z; exact absurd h0 (E.dkin b hb)
    · rw [show (P.hold a o).H0 b = P.H0 b from upd_ne z]; exact E.dkin b hb
  len := E.len
  slot := fun i x e => by
    obtain ⟨v, h1, h2⟩ := E.slot i x e
    refine ⟨v, h1, ?_⟩
    have key : ∀ b, x.own = true → v = .ref b → P.H0 b = none → (P.hold a o).H0 b = none := fun b hx hv q => by
      have z : b ≠ a := fun z => hf i x e hx (by rw [h1, hv, z])
      rw [show (P.hold a o).H0 b = P.H0 b from upd_ne z]; exact q
    cases x with
    | d x => exact h2
    | l xs => obtain ⟨b, vs, rfl, q1, q2, q3⟩ := h2; exact ⟨b, vs, rfl, q1, key b rfl rfl q2, q3⟩
    | m ks xs => obtain ⟨b, vs, rfl, q1, q2, q3⟩ := h2; exact ⟨b, vs, rfl, q1, key b rfl rfl q2, q3⟩
  apart := E.apart
  sys := E.sys
section
variable {P : Pm} {Hs H : Hp} {σ : L2.St} {ρ : S} {a : Addr} {o : HO}
theorem hold_none {b : Addr} (h0 : P.H0 a = none) (h : (P.hold a o).H0 b = none) : b ≠ a ∧ P.H0 b = none := by
  by_cases z : b = a
  · subst z; rw [show (P.hold b o).H0 b = some o from upd_same] at h; cases h
  · exact ⟨z, by rwa [show (P.hold a o).H0 b = P.H0 b from upd_ne z] at h⟩
theorem hold_own {x : B} {v : V} (h0 : P.H0 a = none) (h : Own (P.hold a o) Hs H x v) : Own P Hs H x v ∧ (x.own = true → v ≠ .ref a) := by
  cases x with
  | d x => exact ⟨h, fun z => by cases z⟩
  | l xs => obtain ⟨b, vs, rfl, q1, q2, q3⟩ := h; obtain ⟨n, q⟩ := hold_none h0 q2; exact ⟨⟨b, vs, rfl, q1, q, q3⟩, fun _ z => n (V.ref.inj z)⟩
  | m ks xs => obtain ⟨b, vs, rfl, q1, q2, q3⟩ := h; obtain ⟨n, q⟩ := hold_none h0 q2; exact ⟨⟨b, vs, rfl, q1, q, q3⟩, fun _ z => n (V.ref.inj z)⟩
theorem hold_back (E : ER (P.hold a o) Hs H σ ρ) (h0 : P.H0 a = none) (hs0 : P.Hs0 a = none) (nd : ¬ inDk P.dk a) : ER P Hs H σ ρ ∧ H a = some o ∧ Hs a = none ∧ Fresh σ ρ (.ref a) := by
  have lift0 : ∀ b u, P.H0 b = some u → (P.hold a o).H0 b = some u := fun b u e => by
    rw [show (P.hold a o).H0 b = P.H0 b from upd_ne fun z => by rw [z, h0] at e; cases e]; exact e
  refine ⟨⟨E.sub, E.grow, fun b u e n => E.keep b u (lift0 b u e) n, fun b h1 h2 => E.old b ?_ h2, E.dk, fun b hb => ?_, E.len, fun i x e => ?_, E.apart, E.sys⟩, E.keep a o upd_same nd, E.old a (by rw [show (P.hold a o).H0 a = some o from upd_same]; exact fun z => by cases z) hs0, fun i x e hx hi => ?_⟩
  · cases q : P.H0 b with
    | none => exact absurd q h1
    | some u => rw [lift0 b u q]; exact fun z => by cases z
  · have := E.dkin b hb
    intro q
    exact this (by rw [show (P.hold a o).H0 b = P.H0 b from upd_ne fun z => nd (z ▸ hb)]; exact q)
  · obtain ⟨v, h1, h2⟩ := E.slot i x e
    exact ⟨v, h1, (hold_own h0 h2).1⟩
  · obtain ⟨v, h1, h2⟩ := E.slot i x e
    rw [hi] at h1; cases h1
    exact (hold_own h0 h2).2 hx rfl
theorem hold_rr {v : V} {r : Res} (h0 : P.H0 a = none) (h : RR (P.hold a o) Hs H σ ρ v r) : RR P Hs H σ ρ v r := by
  cases r with
  | d x => exact h
  | l xs => exact ⟨(hold_own (x := .l xs) h0 h.1).1, h.2⟩
  | m ks xs => exact ⟨(hold_own (x := .m ks xs) h0 h.1).1, h.2⟩
  | p i => exact h
/-- an object that no slot has, changed -/
theorem ER.upd1 {u : HO} (E : ER P Hs H σ ρ) (hs : Hs a = none) (h0 : P.H0 a = none) (hf : Fresh σ ρ (.ref a)) : ER P Hs (upd H a u) σ ρ where
  sub := fun b x e => by rw [upd_ne (ne_of_none e hs)]; exact E.sub b x e
  grow := E.grow
  keep := fun b x e n => by rw [upd_ne (ne_of_none e h0)]; exact E.keep b x e n
  old := E.old
  dk := E.dk.to (fun b hb => E.dk.nos hb) fun b hb => upd_ne fun z => E.dkin b hb (z ▸ h0)
  dkin := E.dkin
  len := E.len
  slot := fun i x e => by
    obtain ⟨v, h1, h2⟩ := E.slot i x e
    refine ⟨v, h1, ?_⟩
    cases x with
    | d x => exact h2
    | l xs =>
      obtain ⟨b, vs, rfl, q2, q3, q4, q5⟩ := h2
      exact ⟨b, vs, rfl, q2, q3, by rw [upd_ne fun z => hf i _ e rfl (by rw [h1, z])]; exact q4, q5⟩
    | m ks xs =>
      obtain ⟨b, vs, rfl, q2, q3, q4, q6, q5⟩ := h2
      exact ⟨b, vs, rfl, q2, q3, by rw [upd_ne fun z => hf i _ e rfl (by rw [h1, z])]; exact q4, q6, q5⟩
  apart := E.apart
  sys := E.sys
end

/-! ### targets -/
abbrev WG := D → S → Option S
inductive Tg where
  | nm (i : Nat)
  | tup (ts : List Tg)
mutual
def Tg.set : Tg → WG
  | .nm i, x, ρ => some (ρ.set i (.d x))
  | .tup ts, .tup ds, ρ => Tg.sets ts ds ρ
  | .tup ts, .lst ds, ρ => Tg.sets ts ds ρ
  | .tup _, _, _ => none
def Tg.sets : List Tg → List D → S → Option S
  | [], [], ρ => some ρ
  | t :: ts, d :: ds, ρ => match t.set d ρ with
    | some ρ' => Tg.sets ts ds ρ'
    | none => none
  | _, _, _ => none
end
mutual
def Tg.ixs : Tg → List Nat
  | .nm i => [i]
  | .tup ts => Tg.ixsL ts
def Tg.ixsL : List Tg → List Nat
  | [] => []
  | t :: ts => t.ixs ++ Tg.ixsL ts
end
/-- a target stores data into the slots ws -/
def liftG (P : Pm) (ws : List Nat) (w : WG) : TG := fun v σ H Q => ∃ (τ : List V) (Hs : Hp) (ρ : S) (x : D) (ρ' : S), ER P Hs H (σ ++ τ.map some) ρ ∧ Rp P.K Hs x v ∧ w x ρ = some ρ' ∧
  ∀ σ' : L2.St, σ'.length = σ.length → (∀ j, j ∉ ws → σ'[j]? = σ[j]?) → ER P Hs H (σ' ++ τ.map some) ρ' → Q σ' H
def liftGs (P : Pm) (ws : List Nat) (w : List D → S → Option S) : TGs := fun vs σ H Q => ∃ (τ : List V) (Hs : Hp) (ρ : S) (xs : List D) (ρ' : S), ER P Hs H (σ ++ τ.map some) ρ ∧ RpL P.K Hs xs vs ∧ w xs ρ = some ρ' ∧
  ∀ σ' : L2.St, σ'.length = σ.length → (∀ j, j ∉ ws → σ'[j]? = σ[j]?) → ER P Hs H (σ' ++ τ.map some) ρ' → Q σ' H
def JG (X : Cx) (dk : Option (Addr × Addr)) (tg : Expr) (ws : List Nat) (w : WG) : Prop := ∀ P, Fit X dk P → PG X tg (liftG P ws w)
def JGs (X : Cx) (dk : Option (Addr × Addr)) (tg : List Expr) (ws : List Nat) (w : List D → S → Option S) : Prop := ∀ P, Fit X dk P → PGs X tg (liftGs P ws w)
section
variable {X : Cx} {dk : Option (Addr × Addr)} {e : Expr} {es : List Expr} {pos : Pos}
theorem app_set {σ : L2.St} {τ : List V} {i : Nat} {v : V} (hi : i < σ.length) : (σ ++ τ.map some).set i (some v) = σ.set i (some v) ++ τ.map some := by rw [List.set_append_left _ _ hi]
theorem jg_nm {i : Nat} {x : Str} (hN : X.N.Nodup) (hi : X.N[i]? = some x) (hx : Loc X.env.scope x) (hf : X.fn x = true ∨ X.env.scope.names.lookup x = some .local) : JG X dk (.Name x pos) [i] (Tg.nm i).set := fun P fit => by
  refine ⟨fun pins s σ H v u Q I r ⟨τ, Hs, ρ, d, ρ', E, hd, hw, k⟩ => ?_⟩
  refine (pg_name hN hi hx hf).run pins s σ H v u Q I r ?_
  have hl : i < σ.length := by rw [I.len]; exact (List.getElem?_eq_some_iff.mp hi).1
  simp only [Tg.set] at hw
  cases hw
  refine k _ (by simp) (fun j hj => List.getElem?_set_ne fun z => hj (by simp [z])) ?_
  rw [← app_set hl]
  exact E.set (by rw [← E.len]; simp; omega) hd fun z => by cases z
theorem PG.or {X : Cx} {tg : Expr} {t t' : TG} (h : PG X tg t) (h' : PG X tg t') : PG X tg (fun v σ H Q => t v σ H Q ∨ t' v σ H Q) := ⟨fun pins s σ H v u Q I r q => by
  rcases q with q | q
  · exact h.run pins s σ H v u Q I r q
  · exact h'.run pins s σ H v u Q I r q⟩
theorem pg_weak {X : Cx} {tg : Expr} {t t' : TG} (h : PG X tg t) (k : ∀ v σ H Q, t' v σ H Q → t v σ H Q) : PG X tg t' := ⟨fun pins s σ H v u Q I r q => h.run pins s σ H v u Q I r (k _ _ _ _ q)⟩
theorem pgs_weak {X : Cx} {tg : List Expr} {t t' : TGs} (h : PGs X tg t) (k : ∀ v σ H Q, t' v σ H Q → t v σ H Q) : PGs X tg t' := ⟨fun pins s σ H v u Q I r q => h.run pins s σ H v u Q I r (k _ _ _ _ q)⟩
theorem jgs_nil : JGs X dk [] [] (Tg.sets []) := fun P fit => pgs_weak pgs_nil fun vs σ H Q ⟨τ, Hs, ρ, ds, ρ', E, hd, hw, k⟩ => by
  cases ds with
  | nil =>
    simp only [Tg.sets] at hw
    cases hw
    cases (show vs = [] from hd)
    exact ⟨rfl, k σ rfl (fun _ _ => rfl) E⟩
  | cons d ds => simp [Tg.sets] at hw
theorem jgs_cons {t : Tg} {ts : List Tg} (h1 : JG X dk e t.ixs t.set) (h2 : JGs X dk es (Tg.ixsL ts) (Tg.sets ts)) (hs : (assignEach (e :: es) X.env).map (·.2) = assign e X.env :: (assignEach es X.env).map (·.2)) : JGs X dk (e :: es) (Tg.ixsL (t :: ts)) (Tg.sets (t :: ts)) := fun P fit =>
  pgs_weak (pgs_cons (h1 P fit) (h2 P fit) hs) fun vs σ H Q ⟨τ, Hs, ρ, ds, ρ', E, hd, hw, k⟩ => by
    cases ds with
    | nil => simp [Tg.sets] at hw
    | cons d ds =>
      obtain ⟨v, r, rfl, r1, r2⟩ := hd
      simp only [Tg.sets] at hw
      split at hw
      · rename_i ρ1 e1
        refine ⟨v, r, rfl, τ, Hs, ρ, d, ρ1, E, r1, e1, fun σ1 l1 a1 E1 => ⟨τ, Hs, ρ1, ds, ρ', E1, r2, hw, fun σ2 l2 a2 E2 => k σ2 (l2.trans l1) (fun j hj => ?_) E2⟩⟩
        simp only [Tg.ixsL, List.mem_append, not_or] at hj
        rw [a2 j hj.2, a1 j hj.1]
      · cases hw
theorem jg_tup {ts : List Tg} {k : Nat} (hc : X.calm = true) (h : JGs X dk es (Tg.ixsL ts) (Tg.sets ts)) (hn : (assignEach es X.env).length = ts.length) (hst : (assignEach es X.env).findIdx? (·.1) = none) : JG X dk (.Tuple es k pos) (Tg.tup ts).ixs (Tg.tup ts).set := fun P fit => by
  refine pg_weak (Pz.PG.or (pg_tup hc (h P fit) hn hst) (pg_lst hc (h P fit) hn hst)) fun v σ H Q ⟨τ, Hs, ρ, x, ρ', E, hd, hw, k⟩ => ?_
  have len : ∀ (ts : List Tg) (ds : List D) (ρ ρ' : S), Tg.sets ts ds ρ = some ρ' → ds.length = ts.length := by
    intro ts
    induction ts with
    | nil => intro ds ρ ρ' e; cases ds <;> simp [Tg.sets] at e ⊢
    | cons t ts ih =>
      intro ds ρ ρ' e
      cases ds with
      | nil => simp [Tg.sets] at e
      | cons d ds =>
        simp only [Tg.sets] at e
        split at e
        · simp [ih _ _ _ e]
        · cases e
  cases x with
  | tup ds =>
    obtain ⟨a, vs, rfl, h1, h2⟩ := hd
    simp only [Tg.set] at hw
    rw [← fit.K]
    exact .inl ⟨a, vs, rfl, same_t E.sub h1, by rw [← h2.length]; exact len _ _ _ _ hw, τ, Hs, ρ, ds, ρ', E, h2, hw, fun σ' l a E' => k σ' l (fun j hj => a j (by simpa [Tg.ixs] using hj)) E'⟩
  | lst ds =>
    obtain ⟨a, vs, rfl, h1, h2⟩ := hd
    simp only [Tg.set] at hw
    rw [← fit.K]
    exact .inr ⟨a, vs, rfl, SqL.of (E.sub _ _ h1), by rw [← h2.length]; exact len _ _ _ _ hw, τ, Hs, ρ, ds, ρ', E, h2, hw, fun σ' l a E' => k σ' l (fun j hj => a j (by simpa [Tg.ixs] using hj)) E'⟩
  | _ => simp [Tg.set] at hw
end

/-! ### what is walked -/
abbrev WI := S → (List D → S → Prop) → Prop
structure JOk (P : Pm) (Hs : Hp) (xs : List D) (J : It) : Prop where
  go : ∀ i H, Same Hs H → i < xs.length → J.go i H
  stop : ∀ i H, Same Hs H → xs.length ≤ i → J.stop i H
  yld : ∀ i H x H' Hs', Same Hs H → Same Hs Hs' → Same Hs' H → i < xs.length → J.yld i H x H' → ∃ d, xs[i]? = some d ∧ NR P.K Hs' H x (.d d) H'
theorem JOk.mono {P : Pm} {Hs Hs' : Hp} {xs : List D} {J : It} (h : JOk P Hs xs J) (g : Same Hs Hs') : JOk P Hs' xs J :=
  ⟨fun i H s => h.go i H (g.trans s), fun i H s => h.stop i H (g.trans s), fun i H x H' Hs'' s s' s'' => h.yld i H x H' Hs'' (g.trans s) (g.trans s') s''⟩
def liftI (P : Pm) (w : WI) : TI := fun σ H R => ∃ (τ : List V) (Hs : Hp) (ρ : S) (K : List D → S → Prop), ER P Hs H (σ ++ τ.map some) ρ ∧ w ρ K ∧ ∀ Hs' H' ρ' xs J, Same Hs Hs' → ER P Hs' H' (σ ++ τ.map some) ρ' → JOk P Hs' xs J → K xs ρ' → R J H'
def JI (X : Cx) (dk : Option (Addr × Addr)) (tg e : Expr) (w : WI) : Prop := ∀ P, Fit X dk P → PI X tg e (liftI P w)
theorem pi_weak {X : Cx} {tg e : Expr} {t t' : TI} (h : PI X tg e t) (k : ∀ σ H Q, t' σ H Q → t σ H Q) : PI X tg e t' := ⟨fun pins s σ H Q I q => h.run pins s σ H Q I (k _ _ _ q)⟩
def wiSeq (a : W) : WI := fun ρ K => a ρ fun r ρ' => ∃ x, r.fz.look ρ' = some x ∧ match x with
  | .lst xs => K xs (r.fz.fz ρ')
  | .tup xs => K xs (r.fz.fz ρ')
  | .str x => K (x.cps.toList.map fun c => .str ⟨#[c]⟩) (r.fz.fz ρ')
  | _ => False
section
variable {P : Pm} {Hs : Hp} {K : PySem.W.Frag}
theorem jok_list {a : Addr} {xs : List D} {vs : List V} (h : Hs a = some (.lst vs)) (hr : RpL P.K Hs xs vs) : JOk P Hs xs (Itl P.K a) where
  go := fun i H s hi => ⟨vs, vs[i]'(by rw [← hr.length]; exact hi), SqL.of (s _ _ h), by simp⟩
  stop := fun i H s hi => ⟨vs, SqL.of (s _ _ h), by rw [← hr.length]; exact hi⟩
  yld := fun i H x H' Hs' s s' s'' hi y => by
    obtain ⟨e, y⟩ := y
    subst e
    obtain ⟨d, h1, h2⟩ := hr.getV (y vs (SqL.of (s _ _ h)))
    exact ⟨d, h1, .old (Rp.mono s' _ _ h2)⟩
theorem jok_tup {a : Addr} {xs : List D} {vs : List V} (h : SqT P.K Hs a vs) (hr : RpL P.K Hs xs vs) : JOk P Hs xs (Itt P.K a) where
  go := fun i H s hi => ⟨vs, vs[i]'(by rw [← hr.length]; exact hi), same_t s h, by simp⟩
  stop := fun i H s hi => ⟨vs, same_t s h, by rw [← hr.length]; exact hi⟩
  yld := fun i H x H' Hs' s s' s'' hi y => by
    obtain ⟨e, y⟩ := y
    subst e
    obtain ⟨d, h1, h2⟩ := hr.getV (y vs (same_t s h))
    exact ⟨d, h1, .old (Rp.mono s' _ _ h2)⟩
theorem jok_str {z : Str} : JOk P Hs (z.cps.toList.map fun c => .str ⟨#[c]⟩) (Its z) where
  go := fun i H s hi => by
    have : i < z.cps.size := by simpa using hi
    exact this
  stop := fun i H s hi => by
    have : z.cps.size ≤ i := by simpa using hi
    exact this
  yld := fun i H x H' Hs' s s' s'' hi y => by
    obtain ⟨e, c, hc, rfl⟩ := y
    subst e
    exact ⟨.str ⟨#[c]⟩, by simp [hc], .old rfl⟩
def rngL (lo : Int) (n : Nat) : List D := (List.range n).map fun i => D.int (lo + (i : Nat))
theorem jok_rng {lo : Int} {n : Nat} : JOk P Hs (rngL lo n) (Itr lo n) where
  go := fun i H s hi => by simpa [rngL, Itr] using hi
  stop := fun i H s hi => by simpa [rngL, Itr] using hi
  yld := fun i H x H' Hs' s s' s'' hi y => by
    obtain ⟨e, rfl⟩ := y
    subst e
    have hi' : i < n := by simpa [rngL] using hi
    exact ⟨.int (lo + i), by simp [rngL, hi'], .old rfl⟩
end
section
variable {Γ : Gam} {Sc : Sx} {X : Cx} {dk : Option (Addr × Addr)} {tg e : Expr} {es : List Expr} {pos p : Pos} {wa : W} {t : WA}
theorem pi_any {l : Expr} {tl : TE} (hl : PE X l tl) : PI X tg l (fun σ H R => tl σ H fun x H1 => (∃ a, x = .ref a ∧ (∃ xs, SqL X.K H1 a xs) ∧ R (Itl X.K a) H1) ∨ (∃ a, x = .ref a ∧ (∃ xs, SqT X.K H1 a xs) ∧ R (Itt X.K a) H1) ∨ ∃ z, x = .str z ∧ R (Its z) H1) := by
  refine ⟨fun pins s σ H R I h => ?_⟩
  refine thn (hl.run pins s σ H _ I h) fun v s1 ⟨x, H1, I1, r1, q1⟩ => ?_
  rcases q1 with ⟨a, e, ⟨xs, hq⟩, q⟩ | ⟨a, e, ⟨xs, hq⟩, q⟩ | ⟨z, e, q⟩
  · subst e
    cases r1
    obtain ⟨its, rv, p, hz⟩ := I1.list hq
    refine wpAny_pyIter_list p.isList ?_
    refine ⟨s1.heap.objs.size, [s1.heap.objs.size], _, _, H1, rfl, I1.kept (t' := s1.toks) fun b o e => Heap.get?_push_of_some _ e, turn_list a _, ⟨_, Heap.get?_push_size _ rfl, rfl, rfl⟩, fun b hb => ?_, q⟩
    have e : b = s1.heap.objs.size := by simpa using hb
    subst e
    exact I1.fpOk (Nat.le_refl _) (I1.hok.fresh (Nat.le_refl _))
  · subst e
    cases r1
    obtain ⟨its, rv, p, hz⟩ := I1.tuple hq
    refine wpAny_pyIter_tuple (show s1.heap.IsTuple a its.toArray from p) ?_
    refine ⟨s1.heap.objs.size, [s1.heap.objs.size], _, _, H1, rfl, I1.kept (t' := s1.toks) fun b o e => Heap.get?_push_of_some _ e, turn_tuple a _, ⟨_, Heap.get?_push_size _ rfl, rfl, rfl⟩, fun b hb => ?_, q⟩
    have e : b = s1.heap.objs.size := by simpa using hb
    subst e
    exact I1.fpOk (Nat.le_refl _) (I1.hok.fresh (Nat.le_refl _))
  · subst e
    obtain ⟨t, rfl⟩ := r1
    cases ha : z.cps.all (· < 128)
    · exact wpAny_pyIter_wide ha (pi_one (tk := s1.toks) I1 _ (turn_str _ z t "str_iterator" (.inr rfl)) ⟨_, Heap.get?_push_size _ rfl, rfl, rfl⟩ q)
    · exact wpAny_pyIter_ascii ha (pi_one (tk := s1.toks) I1 _ (turn_str _ z t "str_ascii_iterator" (.inl rfl)) ⟨_, Heap.get?_push_size _ rfl, rfl, rfl⟩ q)
theorem ji_seq (ha : JE X dk e wa) : JI X dk tg e (wiSeq wa) := fun P fit =>
  pi_weak (pi_any (ha P fit)) fun σ H Q ⟨τ, Hs, ρ, K, E, q, k⟩ => ⟨τ, Hs, ρ, _, E, q, fun Hs1 H1 ρ1 v1 r1 g1 E1 q1 ⟨x, hx, hK⟩ => by
    obtain ⟨Hs2, g2, E2, q2⟩ := q1.fz E1
    obtain ⟨Hs3, g3, E3, q3⟩ := O.er E2 q2 hx
    rw [← fit.K]
    cases x with
    | lst xs =>
      obtain ⟨a, vs, rfl, h1, h2⟩ := q3
      exact .inl ⟨a, rfl, ⟨vs, SqL.of (E3.sub _ _ h1)⟩, k Hs3 H1 _ xs _ ((g1.trans g2).trans g3) E3 (jok_list h1 h2) hK⟩
    | tup xs =>
      obtain ⟨a, vs, rfl, h1, h2⟩ := q3
      exact .inr (.inl ⟨a, rfl, ⟨vs, same_t E3.sub h1⟩, k Hs3 H1 _ xs _ ((g1.trans g2).trans g3) E3 (jok_tup h1 h2) hK⟩)
    | str z =>
      cases (show v1 = _ from q3)
      exact .inr (.inr ⟨z, rfl, k Hs3 H1 _ _ _ ((g1.trans g2).trans g3) E3 jok_str hK⟩)
    | _ => exact hK.elim⟩
/-- range(j), range(i, j) -/
def wiRng1 (a : W) : WI := fun ρ K => a ρ fun r ρ' => ∃ j, r.fz = .d (.int j) ∧ (-(2 ^ 62) ≤ j ∧ j < 2 ^ 62) ∧ K (rngL 0 j.toNat) ρ'
def wiRng2 (a b : W) : WI := fun ρ K => a ρ fun r ρ1 => b ρ1 fun r2 ρ2 => ∃ i j, (r.fz = .d (.int i) ∧ r2.fz = .d (.int j)) ∧ (-(2 ^ 62) ≤ i ∧ i < 2 ^ 62 ∧ -(2 ^ 62) ≤ j ∧ j < 2 ^ 62) ∧ K (rngL i (j - i).toNat) ρ2
theorem ji_rng1 {a : Expr} (hg : Gl X "range") (hm : X.mg "range" = none) (ha : JE X dk a wa) (hs : starEach [a] X.env = (false, eval a X.env) :: starEach [] X.env) : JI X dk tg (.Call (.Name "range" p) [a] [] pos) (wiRng1 wa) := fun P fit =>
  pi_weak (pi_range1 hg hm ((ja_cons ha ja_nil hs) P fit) hs) fun σ H Q ⟨τ, Hs, ρ, K, E, q, k⟩ => ⟨τ, Hs, ρ, fun os ρ' => match os with
    | [o] => ∃ j, o = .d (.int j) ∧ (-(2 ^ 62) ≤ j ∧ j < 2 ^ 62) ∧ K (rngL 0 j.toNat) ρ'
    | _ => False, E, q, fun Hs1 H1 ρ1 vs os g1 E1 q1 h => by
    match os, h with
    | [o], ⟨j, ho, hj, hK⟩ =>
      subst ho
      obtain ⟨v, r, rfl, h1, h2⟩ := q1
      cases (show v = _ from h1)
      cases (show r = _ from h2)
      exact ⟨j, rfl, hj.1, hj.2, k Hs1 H1 ρ1 _ _ g1 E1 jok_rng hK⟩⟩
theorem ji_rng2 {a b : Expr} {wb : W} (hg : Gl X "range") (hm : X.mg "range" = none) (ha : JE X dk a wa) (hb : JE X dk b wb) (hs : starEach [a, b] X.env = (false, eval a X.env) :: starEach [b] X.env) (hs2 : starEach [b] X.env = (false, eval b X.env) :: starEach [] X.env) :
    JI X dk tg (.Call (.Name "range" p) [a, b] [] pos) (wiRng2 wa wb) := fun P fit =>
  pi_weak (pi_range2 hg hm ((ja_cons ha (ja_cons hb ja_nil hs2) hs) P fit) (by rw [hs, hs2]; rfl) hs2) fun σ H Q ⟨τ, Hs, ρ, K, E, q, k⟩ => ⟨τ, Hs, ρ, fun os ρ' => match os with
    | [o, o2] => ∃ i j, (o = .d (.int i) ∧ o2 = .d (.int j)) ∧ (-(2 ^ 62) ≤ i ∧ i < 2 ^ 62 ∧ -(2 ^ 62) ≤ j ∧ j < 2 ^ 62) ∧ K (rngL i (j - i).toNat) ρ'
    | _ => False, E, q, fun Hs1 H1 ρ1 vs os g1 E1 q1 h => by
    match os, h with
    | [o, o2], ⟨i, j, ⟨ho, ho2⟩, hj, hK⟩ =>
      subst ho ho2
      obtain ⟨v, r, rfl, h1, v2, r2, rfl, h2, h3⟩ := q1
      cases (show v = _ from h1)
      cases (show v2 = _ from h2)
      cases (show r2 = _ from h3)
      exact ⟨i, j, rfl, hj, k Hs1 H1 ρ1 _ _ g1 E1 jok_rng hK⟩⟩
/-- enumerate(list) -/
def enL (xs : List D) : List D := (List.range xs.length).zipWith (fun i x => D.tup [.int (i : Nat), x]) xs
def wiEnum (a : W) : WI := fun ρ K => a ρ fun r ρ' => ∃ xs, r.fz.look ρ' = some (.lst xs) ∧ K (enL xs) (r.fz.fz ρ')
theorem enL_get {xs : List D} {i : Nat} {d : D} (h : xs[i]? = some d) : (enL xs)[i]? = some (.tup [.int (i : Nat), d]) := by
  have hi := (List.getElem?_eq_some_iff.mp h).1
  simp [enL, List.getElem?_zipWith, List.getElem?_range, hi, h]
  exact Option.some.inj (by rw [← h]; simp [hi])
theorem ji_enum {elts : List Expr} {kk : Nat} {tpos : Pos} (hg : Gl X "enumerate") (hm : X.mg "enumerate" = none) (ha : JE X dk e wa) (hs : starEach [e] X.env = (false, eval e X.env) :: starEach [] X.env) : JI X dk (.Tuple elts kk tpos) (.Call (.Name "enumerate" p) [e] [] pos) (wiEnum wa) := fun P fit =>
  pi_weak (pi_enum hg hm ((ja_cons ha ja_nil hs) P fit) hs) fun σ H Q ⟨τ, Hs, ρ, K, E, q, k⟩ => ⟨τ, Hs, ρ, fun os ρ' => match os with
    | [o] => ∃ xs, o.look ρ' = some (.lst xs) ∧ K (enL xs) (o.fz ρ')
    | _ => False, E, q, fun Hs1 H1 ρ1 vs os g1 E1 q1 h => by
    match os, h with
    | [o], ⟨xs, ho, hK⟩ =>
      obtain ⟨v, r, rfl, h1, h2⟩ := q1
      cases (show r = _ from h2)
      obtain ⟨Hs3, g3, E3, a, vs, rfl, h3, h4⟩ := O.er E1 h1 ho
      rw [← fit.K]
      refine ⟨a, vs, rfl, SqL.of (E3.sub _ _ h3), k Hs3 H1 _ _ _ (g1.trans g3) E3 ⟨fun i H s hi => ?_, fun i H s hi => ?_, fun i H x H' Hs' s s' s'' hi y => ?_⟩ hK⟩
      · have hi' : i < vs.length := by rw [← h4.length]; simpa [enL] using hi
        exact ⟨vs, vs[i], SqL.of (s _ _ h3), by simp [hi']⟩
      · exact ⟨vs, SqL.of (s _ _ h3), by rw [← h4.length]; simpa [enL] using hi⟩
      · obtain ⟨T, x', rfl, hT, rfl, y⟩ := y
        obtain ⟨d, q1, q2⟩ := h4.getV (y vs (SqL.of (s _ _ h3)))
        exact ⟨_, enL_get q1, .nt hT ⟨_, _, rfl, rfl, _, _, rfl, Rp.mono s' _ _ q2, rfl⟩⟩⟩

/-! ### what a block forgets -/
theorem wipe_get {σ : L2.St} {j : Nat} : ∀ {vs : List Nat}, j ∉ vs → (wipe σ vs)[j]? = σ[j]?
  | [], _ => rfl
  | v :: vs, h => by
    simp only [List.mem_cons, not_or] at h
    show ((wipe σ vs).set v none)[j]? = _
    rw [List.getElem?_set_ne (Ne.symm h.1), wipe_get h.2]
theorem wipe_in {σ : L2.St} {j : Nat} : ∀ {vs : List Nat}, j ∈ vs → (wipe σ vs)[j]? = if j < σ.length then some none else none
  | [], h => by cases h
  | v :: vs, h => by
    show ((wipe σ vs).set v none)[j]? = _
    by_cases z : v = j
    · subst z
      by_cases hl : v < σ.length
      · rw [List.getElem?_set_self (by rw [wipe_length]; exact hl), if_pos hl]
      · rw [if_neg hl, List.getElem?_eq_none (by rw [List.length_set, wipe_length]; omega)]
    · rw [List.getElem?_set_ne z]
      exact wipe_in (by rcases List.mem_cons.mp h with e | e; exact absurd e.symm z; exact e)
theorem wipe_ext {σ σ2 : L2.St} {vs : List Nat} (hl : σ2.length = σ.length) (h : ∀ j, j ∉ vs → σ2[j]? = σ[j]?) : wipe σ2 vs = wipe σ vs := by
  refine List.ext_getElem? fun j => ?_
  by_cases hj : j ∈ vs
  · rw [wipe_in hj, wipe_in hj, hl]
  · rw [wipe_get hj, wipe_get hj, h j hj]
theorem wipe_app {σ : L2.St} {τ : List V} : ∀ {vs : List Nat}, (∀ v ∈ vs, v < σ.length) → wipe (σ ++ τ.map some) vs = wipe σ vs ++ τ.map some
  | [], _ => rfl
  | v :: vs, h => by
    show (wipe (σ ++ τ.map some) vs).set v none = _
    rw [wipe_app fun x hx => h x (List.mem_cons_of_mem _ hx)]
    show _ = (wipe σ vs).set v none ++ _
    rw [List.set_append_left _ _ (by rw [wipe_length]; exact h v List.mem_cons_self)]
/-- behind the block: its own names have what they had, if that was a datum -/
def S.back1 (ρ0 ρ : S) (v : Nat) : S := { ρ with v := ρ.v.set v (match ρ0.v[v]? with
  | some (some (.d x)) => some (.d x)
  | _ => none) }
def S.back (ρ0 ρ : S) : List Nat → S
  | [] => ρ
  | v :: vs => S.back1 ρ0 (S.back ρ0 ρ vs) v
theorem back_k {ρ0 ρ : S} : ∀ vs, (S.back ρ0 ρ vs).k = ρ.k
  | [] => rfl
  | v :: vs => back_k vs
theorem back_len {ρ0 ρ : S} : ∀ vs, (S.back ρ0 ρ vs).v.length = ρ.v.length
  | [] => rfl
  | v :: vs => by show ((S.back ρ0 ρ vs).v.set v _).length = _; rw [List.length_set, back_len vs]
theorem back_get {ρ0 ρ : S} {j : Nat} {x : B} : ∀ {vs : List Nat}, (S.back ρ0 ρ vs).v[j]? = some (some x) → (j ∉ vs ∧ ρ.v[j]? = some (some x)) ∨ ∃ d, x = .d d ∧ ρ0.v[j]? = some (some (.d d))
  | [], h => .inl ⟨by simp, h⟩
  | v :: vs, h => by
    have h : ((S.back ρ0 ρ vs).v.set v (match ρ0.v[v]? with
      | some (some (.d x)) => some (.d x)
      | _ => none))[j]? = some (some x) := h
    by_cases z : v = j
    · subst z
      by_cases hl : v < (S.back ρ0 ρ vs).v.length
      · rw [List.getElem?_set_self hl] at h
        have h := Option.some.inj h
        split at h
        · rename_i y e
          cases h
          exact .inr ⟨y, rfl, e⟩
        · cases h
      · rw [List.getElem?_eq_none (by simpa using hl)] at h; cases h
    · rw [List.getElem?_set_ne z] at h
      rcases back_get h with ⟨h1, h2⟩ | h
      · exact .inl ⟨by simp only [List.mem_cons, not_or]; exact ⟨fun e => z e.symm, h1⟩, h2⟩
      · exact .inr h
theorem ER.back {P : Pm} {Hs0 H0 Hs H : Hp} {σ σ2 : L2.St} {ρ0 ρ : S} {vs : List Nat} (E0 : ER P Hs0 H0 σ ρ0) (g : Same Hs0 Hs) (E : ER P Hs H σ2 ρ) (hl : σ2.length = σ.length) (h : ∀ j, j ∉ vs → σ2[j]? = σ[j]?) : ER P Hs H σ (ρ0.back ρ vs) where
  sub := E.sub
  grow := E.grow
  keep := E.keep
  old := E.old
  dk := by rw [back_k]; exact E.dk
  dkin := E.dkin
  len := by rw [back_len, ← E.len, hl]
  slot := fun i x e => by
    rcases back_get e with ⟨n, e⟩ | ⟨d, rfl, e⟩
    · obtain ⟨v, h1, h2⟩ := E.slot i x e
      exact ⟨v, by rw [← h i n]; exact h1, h2⟩
    · obtain ⟨v, h1, h2⟩ := E0.slot i (.d d) ‹_›
      exact ⟨v, h1, Rp.mono g _ _ h2⟩
  apart := fun i j x y v n e1 o1 e2 o2 => by
    rcases back_get e1 with ⟨n1, e1⟩ | ⟨d, rfl, e1⟩
    · rcases back_get e2 with ⟨n2, e2⟩ | ⟨d, rfl, e2⟩
      · rw [← h i n1, ← h j n2]; exact E.apart i j x y v n e1 o1 e2 o2
      · cases o2
    · cases o1
  sys := E.sys

/-! ### list comprehensions -/
def lcGo (g : WG) (vs : List Nat) (tt : WT) (te : W) : List D → List D → S → (Res → S → Prop) → Prop
  | [], acc, ρ, R => R (.l acc) ρ
  | x :: xs, acc, ρ, R => ∃ ρ', g x (ρ.uns vs) = some ρ' ∧ tt ρ' fun b ρ2 => if b = true then te ρ2 fun r ρ3 => ∃ d, r.fz.look ρ3 = some d ∧ acc.length < sizeLine ∧ lcGo g vs tt te xs (acc ++ [d]) (ρ.back (r.fz.fz ρ3) vs) R
      else lcGo g vs tt te xs acc (ρ.back ρ2 vs) R
def wLc (wi : WI) (g : WG) (vs : List Nat) (tt : WT) (te : W) : W := fun ρ R => wi ρ fun xs ρ1 => lcGo g vs tt te xs [] ρ1 R
def JTs (X : Cx) (dk : Option (Addr × Addr)) (es : List Expr) (w : WT) : Prop := ∀ P, Fit X dk P → PTs X es (liftT P w)
def wtYes : WT := fun ρ K => K true ρ
theorem pts_weak {X : Cx} {es : List Expr} {t t' : TT} (h : PTs X es t) (k : ∀ σ H Q, t' σ H Q → t σ H Q) : PTs X es t' := ⟨fun pins s σ H Q I q => h.run pins s σ H Q I (k _ _ _ q)⟩
theorem jts_nil : JTs X dk [] wtYes := fun P fit => pts_weak pts_nil fun σ H Q ⟨τ, Hs, ρ, K, E, q, k⟩ => k Hs H ρ true (Same.refl _) E q
theorem jts_one {w : WT} (h : JT X dk e w) : JTs X dk [e] w := fun P fit => pts_one (h P fit)
/-- .. with the parameters that the moment asks for -/
def liftX (K : PySem.W.Frag) (dk : Option (Addr × Addr)) (w : W) : TE := fun σ H Q => ∃ P : Pm, (P.K = K ∧ P.dk = dk) ∧ lift P w σ H Q
def liftTX (K : PySem.W.Frag) (dk : Option (Addr × Addr)) (w : WT) : TT := fun σ H Q => ∃ P : Pm, (P.K = K ∧ P.dk = dk) ∧ liftT P w σ H Q
def liftGX (K : PySem.W.Frag) (dk : Option (Addr × Addr)) (ws : List Nat) (w : WG) : TG := fun v σ H Q => ∃ P : Pm, (P.K = K ∧ P.dk = dk) ∧ liftG P ws w v σ H Q
theorem JE.any {w : W} (h : JE X dk e w) : PE X e (liftX X.K dk w) := ⟨fun pins s σ H Q I ⟨P, f, q⟩ => (h P ⟨f.1, f.2⟩).run pins s σ H Q I q⟩
theorem JTs.any {w : WT} (h : JTs X dk es w) : PTs X es (liftTX X.K dk w) := ⟨fun pins s σ H Q I ⟨P, f, q⟩ => (h P ⟨f.1, f.2⟩).run pins s σ H Q I q⟩
theorem JG.any {ws : List Nat} {w : WG} (h : JG X dk tg ws w) : PG X tg (liftGX X.K dk ws w) := ⟨fun pins s σ H v u Q I r ⟨P, f, q⟩ => (h P ⟨f.1, f.2⟩).run pins s σ H v u Q I r q⟩
theorem lc_lift {P : Pm} {wi : WI} {g : WG} {ws vs : List Nat} {tt : WT} {te : W} {σ : L2.St} {H : Hp} {Q : VK} (hv : ∀ v ∈ vs, v < σ.length) (hw : ∀ j ∈ ws, j ∈ vs) (h : lift P (wLc wi g vs tt te) σ H Q) :
    tLc (liftI P wi) (liftGX P.K P.dk ws g) (liftTX P.K P.dk tt) (liftX P.K P.dk te) vs σ H Q := by
  obtain ⟨τ, Hs, ρ, R, E, q, k⟩ := h
  refine ⟨τ, Hs, ρ, _, E, q, fun Hs1 H1 ρ1 xs J g1 E1 jok q1 => ?_⟩
  intro D hD
  obtain ⟨E2, hs, h0, hf⟩ := E1.new (o := .lst []) hD
  have hs0 : P.Hs0 D = none := Same.free E1.grow hs
  have nd : ¬ inDk P.dk D := fun z => E1.dkin D z h0
  refine ⟨fun i m H => m = xs.length - i ∧ i ≤ xs.length ∧ ∃ (Hs2 : Hp) (ρ2 : S) (acc : List Pz.D) (us : List V), Same Hs1 Hs2 ∧ ER P Hs2 H (σ ++ τ.map some) ρ2 ∧ H D = some (.lst us) ∧ Hs2 D = none ∧ Fresh (σ ++ τ.map some) ρ2 (.ref D) ∧ RpL P.K Hs2 acc us ∧ lcGo g vs tt te (xs.drop i) acc ρ2 R,
    ⟨_, rfl, Nat.zero_le _, Hs1, ρ1, [], [], Same.refl _, E2, upd_same, hs, hf, rfl, q1⟩, ?_⟩
  rintro i m H ⟨rfl, hi, Hs2, ρ2, acc, us, gs, E2, hHD, hsD, fD, hacc, go⟩
  by_cases hlt : i < xs.length
  · right
    refine ⟨jok.go i H (gs.trans E2.sub) hlt, fun H' => i + 1 ≤ xs.length ∧ ∃ (Hs2 : Hp) (ρ2 : S) (acc : List Pz.D) (us : List V), Same Hs1 Hs2 ∧ ER P Hs2 H' (σ ++ τ.map some) ρ2 ∧ H' D = some (.lst us) ∧ Hs2 D = none ∧ Fresh (σ ++ τ.map some) ρ2 (.ref D) ∧ RpL P.K Hs2 acc us ∧ lcGo g vs tt te (xs.drop (i + 1)) acc ρ2 R,
      fun H' hN => ⟨_, by omega, rfl, hN⟩, fun x H' y => ?_⟩
    obtain ⟨d, hd, nr⟩ := jok.yld i H x H' Hs2 (gs.trans E2.sub) gs E2.sub hlt y
    rw [List.drop_eq_getElem_cons hlt] at go
    have hd' : xs[i] = d := Option.some.inj (by rw [← hd]; simp [hlt])
    rw [hd'] at go
    obtain ⟨ρ3, hg, go⟩ := go
    -- D is held
    have EH := hold_of E2 hsD h0 hHD fD
    obtain ⟨Hs3, g3, E3, q3⟩ := NR.er (P := P.hold D (.lst us)) EH nr
    have E4 := E3.uns vs
    rw [wipe_app hv] at E4
    refine ⟨P.hold D (.lst us), ⟨rfl, rfl⟩, τ, Hs3, ρ2.uns vs, d, ρ3, E4, q3, hg, fun σ2 l2 a2 E5 => ?_⟩
    have l2' : σ2.length = σ.length := by rw [l2, wipe_length]
    have a2' : ∀ j, j ∉ vs → σ2[j]? = σ[j]? := fun j hj => by rw [a2 j fun z => hj (hw j z), wipe_get hj]
    have a3 : ∀ j, j ∉ vs → (σ2 ++ τ.map some)[j]? = (σ ++ τ.map some)[j]? := fun j hj => by
      by_cases hl : j < σ.length
      · rw [List.getElem?_append_left hl, List.getElem?_append_left (by omega), a2' j hj]
      · rw [List.getElem?_append_right (by omega), List.getElem?_append_right (by omega), l2']
    have l3 : (σ2 ++ τ.map some).length = (σ ++ τ.map some).length := by simp [l2']
    refine ⟨wipe_ext l2' a2', P.hold D (.lst us), ⟨rfl, rfl⟩, τ, Hs3, ρ3, _, E5, go, fun Hs4 H4 ρ4 b g4 E6 hb => ?_⟩
    cases b with
    | false =>
      have E7 := ER.back E3 g4 E6 l3 a3
      obtain ⟨E8, n1, n2, n3⟩ := hold_back E7 h0 hs0 nd
      exact ⟨hlt, Hs4, _, acc, us, (gs.trans g3).trans g4, E8, n1, n2, n3, RpL.mono (g3.trans g4) _ _ hacc, hb⟩
    | true =>
      refine ⟨P.hold D (.lst us), ⟨rfl, rfl⟩, τ, Hs4, ρ4, _, E6, hb, fun Hs5 H5 ρ5 v r g5 E7 qr ⟨dd, hl, hz, hgo⟩ => ?_⟩
      obtain ⟨Hs6, g6, E8, q8⟩ := qr.fz E7
      obtain ⟨Hs7, g7, E9, q9⟩ := O.er E8 q8 hl
      have gg := ((g4.trans g5).trans g6).trans g7
      have E10 := ER.back E3 gg E9 l3 a3
      obtain ⟨E11, n1, n2, n3⟩ := hold_back E10 h0 hs0 nd
      refine ⟨us, n1, by rw [← hacc.length]; exact hz, hlt, Hs7, _, acc ++ [dd], us ++ [v], (gs.trans g3).trans gg, E11.upd1 n2 h0 n3, upd_same, n2, n3, (RpL.mono (g3.trans gg) _ _ hacc).append (.cons q9 .nil), hgo⟩
  · have e : i = xs.length := by omega
    subst e
    left
    refine ⟨jok.stop _ H (gs.trans E2.sub) (Nat.le_refl _), ?_⟩
    rw [List.drop_length] at go
    exact k Hs2 H ρ2 _ (.l acc) (g1.trans gs) E2 ⟨⟨D, us, rfl, hsD, h0, hHD, hacc⟩, fD⟩ go
end
section
variable {Γ : Gam} {Sc : Sx} {X : Cx} {dk : Option (Addr × Addr)} {elt tg iter : Expr} {ifs : List Expr} {scope : Scope} {own : List (Str × Nat)} {pos : Pos} {wi : WI} {g : WG} {ws : List Nat} {tt : WT} {te : W}
/-- the scope of a comprehension's block -/
def Sx.blk (Sc : Sx) (scope : Scope) : Sx := ⟨Sc.N, relS scope Sc.sc, fun x => scope.names.lookup x == some .cell⟩
theorem Good.blk (G : Good Γ Sc X) (s : Shared) (H : Hp) (C : Addr) (cl : List (Str × Addr)) (fp : List Addr) : Good Γ (Sc.blk scope) (X.blk s H scope (compEnvC scope cl C X.env) fp) :=
  ⟨G.P, G.w, G.K, G.mg, G.base, G.N, by unfold Sx.blk; rw [← G.sc] <;> rfl, rfl, G.nd, G.calm, G.gd, G.room, PassesOwn.never⟩
theorem ix_lt {σ : L2.St} (ok : ∀ p ∈ own, X.N[p.2]? = some p.1) (hl : σ.length = X.N.length) : ∀ v ∈ own.map (·.2), v < σ.length := fun v hv => by
  obtain ⟨p, hp, rfl⟩ := List.mem_map.mp hv
  rw [hl]; exact (List.getElem?_eq_some_iff.mp (ok p hp)).1
theorem je_lc (G : Good Γ Sc X) (hi : JI X dk tg iter wi) (ok : BlkOk X.N X.env.scope scope own) (hw : ∀ j ∈ ws, j ∈ own.map (·.2))
    (hg : ∀ X', Good Γ (Sc.blk scope) X' → JG X' dk tg ws g) (ht : ∀ X', Good Γ (Sc.blk scope) X' → JTs X' dk ifs tt) (he : ∀ X', Good Γ (Sc.blk scope) X' → JE X' dk elt te)
    (hs : ∀ x, foldedSetIterable iter X.env x = pure x) : JE X dk (.ListComp elt [⟨tg, iter, ifs, 0⟩] scope pos) (wLc wi g (own.map (·.2)) tt te) := fun P fit =>
  pe_weakL (pe_lc G.calm (by rw [G.N]; exact G.nd) (hi P fit) ok (fun s H C cl fp => (hg _ (G.blk s H C cl fp)).any) (fun s H C cl fp => (ht _ (G.blk s H C cl fp)).any) (fun s H C cl fp => (he _ (G.blk s H C cl fp)).any) hs) fun σ H Q hl h => by
    have := lc_lift (ix_lt ok.ix hl) hw h
    rw [fit.K, fit.dk] at this
    exact this
end
end Pz

set_option maxRecDepth 100000
set_option maxHeartbeats 4000000
/-! Pz, part 11: statements. -/
namespace Pz
open PySem L2 PySem.Spec PyProof.Rows

def wNext : WS := fun ρ c => c.nx ρ
def wSeq (s t : WS) : WS := fun ρ c => s ρ { c with nx := fun ρ' => t ρ' c }
def wBrk : WS := fun ρ c => c.bk ρ
def wCnt : WS := fun ρ c => c.ct ρ
def wDrop (a : W) : WS := fun ρ c => a ρ fun _ ρ' => c.nx ρ'
def wRet (a : W) : WS := fun ρ c => a ρ fun r ρ' => c.rt r ρ'
def wIfS (t : WT) (a b : WS) : WS := fun ρ c => t ρ fun k ρ' => if k = true then a ρ' c else b ρ' c
def wSet (i : Nat) (a : W) : WS := fun ρ c => a ρ fun r ρ' => c.nx (ρ'.put i r)
/-- what is stored into a target of several names -/
def wUnp (g : WG) (a : W) : WS := fun ρ c => a ρ fun r ρ' => ∃ x ρ2, r.fz.look ρ' = some x ∧ g x (r.fz.fz ρ') = some ρ2 ∧ c.nx ρ2
/-- a result waits -/
def S.push (ρ : S) : Res → S
  | .d x => ⟨ρ.v ++ [some (.d x)], ρ.k⟩
  | .l xs => ⟨ρ.v ++ [some (.l xs)], ρ.k⟩
  | .m ks xs => ⟨ρ.v ++ [some (.m ks xs)], ρ.k⟩
  | .p i => match O.look ρ (.p i) with
    | some x => ⟨(ρ.fz i).v ++ [some (.d x)], ρ.k⟩
    | none => ⟨ρ.v ++ [none], ρ.k⟩
/-- the last that waits is stored -/
def S.mv (ρ : S) (i : Nat) : S := ⟨ρ.v.dropLast.set i (ρ.v.getLast?.getD none), ρ.k⟩
def S.mvs (ρ : S) : List Nat → S
  | [] => ρ
  | i :: is => (ρ.mv i).mvs is
def parGo : List W → (S → Prop) → S → Prop
  | [], K, ρ => K ρ
  | a :: as, K, ρ => a ρ fun r ρ' => parGo as K (ρ'.push r)
/-- a, b = x, y -/
def wPar (is : List Nat) (as : List W) : WS := fun ρ c => parGo as (fun ρ' => c.nx (ρ'.mvs is.reverse)) ρ
def forGo (g : WG) (b : WS) : List D → WS
  | [], ρ, c => c.nx ρ
  | x :: xs, ρ, c => ∃ ρ', g x ρ = some ρ' ∧ b ρ' { nx := fun ρ2 => forGo g b xs ρ2 c, ct := fun ρ2 => forGo g b xs ρ2 c, rt := c.rt, bk := c.nx }
def wFor (wi : WI) (g : WG) (b : WS) : WS := fun ρ c => wi ρ fun xs ρ1 => forGo g b xs ρ1 c
def wWhile (t : WT) (b : WS) : WS := fun ρ c => ∃ I : Nat → S → Prop, (∃ m, I m ρ) ∧ ∀ m ρ, I m ρ → t ρ fun k ρ' => if k = true then b ρ' { nx := fun ρ2 => ∃ m', m' < m ∧ I m' ρ2, ct := fun ρ2 => ∃ m', m' < m ∧ I m' ρ2, rt := c.rt, bk := c.nx } else c.nx ρ'

section
variable {Γ : Gam} {Sc : Sx} {X : Cx} {dk : Option (Addr × Addr)} {e tg iter cnd : Expr} {es : List Expr} {st : Stmt} {sts sts2 : List Stmt} {w u : WS} {wa : W} {wt : WT} {wi : WI} {g : WG} {ws : List Nat} {pos : Pos}
theorem nilτ {σ : L2.St} : σ ++ ([] : List V).map some = σ := by simp
/-- one part's end, the statement's -/
theorem js_nil : JSs X dk [] wNext := fun P fit => pss_weak pss_nil fun D σ H ⟨Hs, ρ, c, E, q, k1, k2, k3, k4⟩ => k1 σ Hs H ρ (Same.refl _) E q
theorem js_pass : JS X dk (.Pass pos) wNext := fun P fit => ps_weak ps_pass fun D σ H ⟨Hs, ρ, c, E, q, k1, k2, k3, k4⟩ => k1 σ Hs H ρ (Same.refl _) E q
theorem js_brk : JS X dk (.Break pos) wBrk := fun P fit => ps_weak ps_break fun D σ H ⟨Hs, ρ, c, E, q, k1, k2, k3, k4⟩ => k3 σ Hs H ρ (Same.refl _) E q
theorem js_cnt : JS X dk (.Continue pos) wCnt := fun P fit => ps_weak ps_continue fun D σ H ⟨Hs, ρ, c, E, q, k1, k2, k3, k4⟩ => k4 σ Hs H ρ (Same.refl _) E q
theorem js_cons (h1 : JS X dk st w) (h2 : JSs X dk sts u) : JSs X dk (st :: sts) (wSeq w u) := fun P fit =>
  pss_weak (pss_cons (h1 P fit) (h2 P fit)) fun D σ H ⟨Hs, ρ, c, E, q, k1, k2, k3, k4⟩ => ⟨Hs, ρ, _, E, q, fun σ' Hs' H' ρ' g' E' h => ⟨Hs', ρ', c, E', h, fun σ2 Hs2 H2 ρ2 g2 => k1 σ2 Hs2 H2 ρ2 (g'.trans g2), fun σ2 Hs2 H2 ρ2 v r g2 => k2 σ2 Hs2 H2 ρ2 v r (g'.trans g2), fun σ2 Hs2 H2 ρ2 g2 => k3 σ2 Hs2 H2 ρ2 (g'.trans g2), fun σ2 Hs2 H2 ρ2 g2 => k4 σ2 Hs2 H2 ρ2 (g'.trans g2)⟩, k2, k3, k4⟩
/-- an expression within a statement -/
theorem inE {P : Pm} {Hs H : Hp} {σ : L2.St} {ρ : S} {R : Res → S → Prop} {Q : VK} (E : ER P Hs H σ ρ) (q : wa ρ R) (k : ∀ Hs' H' ρ' v r, Same Hs Hs' → ER P Hs' H' σ ρ' → RR P Hs' H' σ ρ' v r → R r ρ' → Q v H') : lift P wa σ H Q :=
  ⟨[], Hs, ρ, R, by rw [nilτ]; exact E, q, fun Hs' H' ρ' v r g E' rr => by rw [nilτ] at E' rr; exact k Hs' H' ρ' v r g E' rr⟩
theorem inT {P : Pm} {Hs H : Hp} {σ : L2.St} {ρ : S} {R : Bool → S → Prop} {Q : Bool → Hp → Prop} (E : ER P Hs H σ ρ) (q : wt ρ R) (k : ∀ Hs' H' ρ' b, Same Hs Hs' → ER P Hs' H' σ ρ' → R b ρ' → Q b H') : liftT P wt σ H Q :=
  ⟨[], Hs, ρ, R, by rw [nilτ]; exact E, q, fun Hs' H' ρ' v g E' rr => by rw [nilτ] at E'; exact k Hs' H' ρ' v g E' rr⟩
theorem inA {P : Pm} {t : WA} {Hs H : Hp} {σ : L2.St} {ρ : S} {R : List O → S → Prop} {Q : List V → Hp → Prop} (E : ER P Hs H σ ρ) (q : t ρ R) (k : ∀ Hs' H' ρ' vs os, Same Hs Hs' → ER P Hs' H' σ ρ' → ROs P Hs' σ vs os → R os ρ' → Q vs H') : liftA P t σ H Q :=
  ⟨[], Hs, ρ, R, by rw [nilτ]; exact E, q, fun Hs' H' ρ' vs os g E' rr => by rw [nilτ] at E' rr; exact k Hs' H' ρ' vs os g E' rr⟩
theorem js_drop (ha : JE X dk e wa) (hs : swapsWith e none pos.line X.env = pure false) : JS X dk (.Expr e pos) (wDrop wa) := fun P fit =>
  ps_weak (ps_expr (ha P fit) hs) fun D σ H ⟨Hs, ρ, c, E, q, k1, k2, k3, k4⟩ => inE E q fun Hs' H' ρ' v r g E' rr h => k1 σ Hs' H' ρ' g E' h
theorem js_ret (ha : JE X dk e wa) : JS X dk (.Return (some e) pos) (wRet wa) := fun P fit =>
  ps_weak (ps_ret (ha P fit)) fun D σ H ⟨Hs, ρ, c, E, q, k1, k2, k3, k4⟩ => inE E q fun Hs' H' ρ' v r g E' rr h => k2 σ Hs' H' ρ' v r g E' rr h
theorem js_retN : JS X dk (.Return none pos) (wRet (wc .non)) := fun P fit =>
  ps_weak ps_retN fun D σ H ⟨Hs, ρ, c, E, q, k1, k2, k3, k4⟩ => k2 σ Hs H ρ .non (.d .non) (Same.refl _) E rfl q
theorem js_if (hc : JT X dk cnd wt) (ha : JSs X dk sts w) (hb : JSs X dk sts2 u) : JS X dk (.If cnd sts sts2 pos) (wIfS wt w u) := fun P fit =>
  ps_weak (ps_if (hc P fit) (ha P fit) (hb P fit)) fun D σ H ⟨Hs, ρ, c, E, q, k1, k2, k3, k4⟩ => inT E q fun Hs' H' ρ' b g' E' h => by
    have fin : ∀ {w : WS}, w ρ' c → liftS P w D σ H' := fun {w} h => ⟨Hs', ρ', c, E', h, fun σ2 Hs2 H2 ρ2 g2 => k1 σ2 Hs2 H2 ρ2 (g'.trans g2), fun σ2 Hs2 H2 ρ2 v r g2 => k2 σ2 Hs2 H2 ρ2 v r (g'.trans g2), fun σ2 Hs2 H2 ρ2 g2 => k3 σ2 Hs2 H2 ρ2 (g'.trans g2), fun σ2 Hs2 H2 ρ2 g2 => k4 σ2 Hs2 H2 ρ2 (g'.trans g2)⟩
    cases b with
    | true => exact fin h
    | false => exact fin h
/-- a name is bound, whatever its slot -/
theorem ER.putA {P : Pm} {Hs H : Hp} {σ : L2.St} {ρ : S} {v : V} {r : Res} {i : Nat} (E : ER P Hs H σ ρ) (h : RR P Hs H σ ρ v r) : ∃ Hs', Same Hs Hs' ∧ ER P Hs' H (σ.set i (some v)) (ρ.put i r) := by
  by_cases hi : i < ρ.v.length
  · exact E.put hi h
  · have e1 : σ.set i (some v) = σ := List.set_eq_of_length_le (by rw [E.len]; omega)
    rw [e1]
    have e2 : ∀ (ρ : S) b, ¬ i < ρ.v.length → ρ.set i b = ρ := fun ρ b hi => by
      unfold S.set; rw [List.set_eq_of_length_le (by omega)]
    cases r with
    | d x => exact ⟨Hs, Same.refl _, by rw [show ρ.put i (.d x) = ρ.set i (.d x) from rfl, e2 _ _ hi]; exact E⟩
    | l x => exact ⟨Hs, Same.refl _, by rw [show ρ.put i (.l x) = ρ.set i (.l x) from rfl, e2 _ _ hi]; exact E⟩
    | m ks x => exact ⟨Hs, Same.refl _, by rw [show ρ.put i (.m ks x) = ρ.set i (.m ks x) from rfl, e2 _ _ hi]; exact E⟩
    | p j =>
      obtain ⟨h1, b, h2, h3⟩ := h
      have hl : O.look ρ (.p j) = some b.dat := by simp only [O.look, h2]
      obtain ⟨Hs', g, E', q⟩ := E.fz h1 hl
      refine ⟨Hs', g, ?_⟩
      simp only [S.put, hl]
      rw [e2 _ _ (by rw [S.fz_len]; exact hi)]
      exact E'
theorem js_set {i : Nat} {x : Str} {pos' : Pos} (hN : X.N.Nodup) (hi : X.N[i]? = some x) (hx : Loc X.env.scope x) (ha : JE X dk e wa) (hs : swapsWith e (some (.Name x pos')) pos.line X.env = pure false) (hf : X.fn x = true ∨ X.env.scope.names.lookup x = some .local) :
    JS X dk (.Assign [.Name x pos'] e pos) (wSet i wa) := fun P fit =>
  ps_weak (ps_set hN hi hx (ha P fit) hs hf) fun D σ H ⟨Hs, ρ, c, E, q, k1, k2, k3, k4⟩ => inE E q fun Hs' H' ρ' v r g E' rr h => by
    obtain ⟨Hs2, g2, E2⟩ := E'.putA (i := i) rr
    exact k1 _ Hs2 H' _ (g.trans g2) E2 h
/-- several names -/
theorem js_unp (hg : JG X dk tg ws g) (ha : JE X dk e wa) (hs : swapsWithSole [tg] e pos.line X.env = pure false) (hw : swappedStores [tg] e X.env = pure none) (h1 : (assignEach [tg] X.env).map (·.2) = [assign tg X.env]) :
    JS X dk (.Assign [tg] e pos) (wUnp g wa) := fun P fit =>
  ps_weak (ps_asg (ha P fit) (hg P fit) hs hw h1) fun D σ H ⟨Hs, ρ, c, E, q, k1, k2, k3, k4⟩ => inE E q fun Hs' H' ρ' v r g E' rr ⟨x, ρ2, hl, hgs, h⟩ => by
    obtain ⟨Hs2, g2, E2, q2⟩ := rr.fz E'
    obtain ⟨Hs3, g3, E3, q3⟩ := O.er E2 q2 hl
    exact ⟨[], Hs3, _, x, ρ2, by rw [nilτ]; exact E3, q3, hgs, fun σ' l a E4 => k1 σ' Hs3 H' ρ2 ((g.trans g2).trans g3) (by rw [nilτ] at E4; exact E4) h⟩
theorem ER.pushB {P : Pm} {Hs H : Hp} {σ : L2.St} {ρ : S} {v : V} {b : B} (E : ER P Hs H σ ρ) (h : Own P Hs H b v) (hf : b.own = true → Fresh σ ρ v) : ER P Hs H (σ ++ [some v]) ⟨ρ.v ++ [some b], ρ.k⟩ where
  sub := E.sub
  grow := E.grow
  keep := E.keep
  old := E.old
  dk := E.dk
  dkin := E.dkin
  len := by simp [E.len]
  slot := fun i x e => by
    by_cases hi : i < ρ.v.length
    · have e : (ρ.v ++ [some b])[i]? = some (some x) := e
      rw [List.getElem?_append_left hi] at e
      obtain ⟨w, h1, h2⟩ := E.slot i x e
      exact ⟨w, by rw [List.getElem?_append_left (by rw [E.len]; exact hi)]; exact h1, h2⟩
    · have e : (ρ.v ++ [some b])[i]? = some (some x) := e
      have hj : i = ρ.v.length := by
        have := (List.getElem?_eq_some_iff.mp e).1
        simp at this; omega
      subst hj
      simp at e
      subst e
      exact ⟨v, by rw [← E.len]; simp, h⟩
  apart := fun i j x y u n e1 o1 e2 o2 => by
    have e1 : (ρ.v ++ [some b])[i]? = some (some x) := e1
    have e2 : (ρ.v ++ [some b])[j]? = some (some y) := e2
    have key : ∀ {i : Nat} {x : B}, (ρ.v ++ [some b])[i]? = some (some x) → (i < ρ.v.length ∧ ρ.v[i]? = some (some x) ∧ (σ ++ [some v])[i]? = σ[i]?) ∨ (i = ρ.v.length ∧ x = b ∧ (σ ++ [some v])[i]? = some (some v)) := fun {i x} e => by
      by_cases hi : i < ρ.v.length
      · rw [List.getElem?_append_left hi] at e
        exact .inl ⟨hi, e, List.getElem?_append_left (by rw [E.len]; exact hi)⟩
      · have hj : i = ρ.v.length := by
          have := (List.getElem?_eq_some_iff.mp e).1
          simp at this; omega
        subst hj
        simp at e
        exact .inr ⟨rfl, e.symm, by rw [← E.len]; simp⟩
    rcases key e1 with ⟨h1, f1, g1⟩ | ⟨h1, f1, g1⟩ <;> rcases key e2 with ⟨h2, f2, g2⟩ | ⟨h2, f2, g2⟩
    · rw [g1, g2]; exact E.apart i j x y u n f1 o1 f2 o2
    · rw [g1, g2]
      subst f2
      intro q q'; cases q'
      exact hf o2 i x f1 o1 q
    · rw [g1, g2]
      subst f1
      intro q q'; cases q
      exact hf o1 j y f2 o2 q'
    · exact absurd (h1.trans h2.symm) n
  sys := E.sys
theorem ER.push {P : Pm} {Hs H : Hp} {σ : L2.St} {ρ : S} {v : V} {r : Res} (E : ER P Hs H σ ρ) (h : RR P Hs H σ ρ v r) : ∃ Hs', Same Hs Hs' ∧ ER P Hs' H (σ ++ [some v]) (ρ.push r) := by
  cases r with
  | d x => exact ⟨Hs, Same.refl _, E.pushB (b := .d x) h fun z => by cases z⟩
  | l xs => exact ⟨Hs, Same.refl _, E.pushB (b := .l xs) h.1 fun _ => h.2⟩
  | m ks xs => exact ⟨Hs, Same.refl _, E.pushB (b := .m ks xs) h.1 fun _ => h.2⟩
  | p i =>
    obtain ⟨h1, b, h2, h3⟩ := h
    have hl : O.look ρ (.p i) = some b.dat := by simp only [O.look, h2]
    obtain ⟨Hs', g, E', q⟩ := E.fz h1 hl
    refine ⟨Hs', g, ?_⟩
    simp only [S.push, hl]
    have := E'.pushB (b := .d b.dat) q fun z => by cases z
    rw [S.fz_k] at this
    exact this
theorem ER.mv {P : Pm} {Hs H : Hp} {σ : L2.St} {ρ : S} {v : V} {i : Nat} (E : ER P Hs H (σ ++ [some v]) ρ) : ER P Hs H (σ.set i (some v)) (ρ.mv i) := by
  have hl : ρ.v.length = σ.length + 1 := by rw [← E.len]; simp
  have hne : ρ.v ≠ [] := fun z => by rw [z] at hl; simp at hl
  obtain ⟨vs, b, hv⟩ : ∃ vs b, ρ.v = vs ++ [b] := ⟨ρ.v.dropLast, ρ.v.getLast hne, (List.dropLast_concat_getLast hne).symm⟩
  have hvl : vs.length = σ.length := by rw [hv] at hl; simpa using hl
  have e0 : ρ.mv i = ⟨vs.set i b, ρ.k⟩ := by unfold S.mv; rw [hv]; simp
  rw [e0]
  have key : ∀ {j : Nat} {x : B}, (vs.set i b)[j]? = some (some x) → (j ≠ i ∧ ρ.v[j]? = some (some x) ∧ j < σ.length ∧ (σ.set i (some v))[j]? = (σ ++ [some v])[j]?) ∨ (j = i ∧ b = some x ∧ j < σ.length ∧ (σ.set i (some v))[j]? = some (some v)) := fun {j x} e => by
    have hj : j < vs.length := by have := (List.getElem?_eq_some_iff.mp e).1; simpa using this
    by_cases z : j = i
    · subst z
      rw [List.getElem?_set_self hj] at e
      exact .inr ⟨rfl, Option.some.inj e, by omega, List.getElem?_set_self (by omega)⟩
    · rw [List.getElem?_set_ne (Ne.symm z)] at e
      exact .inl ⟨z, by rw [hv, List.getElem?_append_left hj]; exact e, by omega, by rw [List.getElem?_set_ne (Ne.symm z), List.getElem?_append_left (by omega)]⟩
  have last : ∀ {x : B}, b = some x → ρ.v[σ.length]? = some (some x) ∧ (σ ++ [some v])[σ.length]? = some (some v) := fun {x} e => ⟨by rw [hv, ← hvl, e]; simp, by simp⟩
  exact ⟨E.sub, E.grow, E.keep, E.old, E.dk, E.dkin, by simp [hvl], fun j x e => by
    rcases key e with ⟨_, h1, _, h2⟩ | ⟨_, h1, _, h2⟩
    · rw [h2]; exact E.slot j x h1
    · rw [h2]
      obtain ⟨f1, f2⟩ := last h1
      obtain ⟨w, q1, q2⟩ := E.slot _ x f1
      rw [f2] at q1; cases q1
      exact ⟨v, rfl, q2⟩, fun j k x y u n e1 o1 e2 o2 => by
    rcases key e1 with ⟨n1, h1, l1, g1⟩ | ⟨n1, h1, l1, g1⟩ <;> rcases key e2 with ⟨n2, h2, l2, g2⟩ | ⟨n2, h2, l2, g2⟩
    · rw [g1, g2]; exact E.apart j k x y u n h1 o1 h2 o2
    · rw [g1, g2]
      obtain ⟨f1, f2⟩ := last h2
      intro q q'; cases q'
      exact E.apart j σ.length x y v (by omega) h1 o1 f1 o2 q f2
    · rw [g1, g2]
      obtain ⟨f1, f2⟩ := last h1
      intro q q'; cases q
      exact E.apart σ.length k x y v (by omega) f1 o1 h2 o2 f2 q'
    · exact absurd (n1.trans n2.symm) n, E.sys⟩
theorem app1 {σ : L2.St} {τ : List V} {v : V} : σ ++ (τ ++ [v]).map some = (σ ++ τ.map some) ++ [some v] := by simp
theorem mv_set {σ : L2.St} {τ : List V} {j : Nat} {v : V} (hl : j < σ.length) : (σ ++ τ.map some).set j (some v) = σ.set j (some v) ++ τ.map some := by rw [List.set_append_left _ _ hl]
theorem js_par {i j : Nat} {x y : Str} {a b : Expr} {wb : W} {px py pt : Pos} {kt k2 pt2} (G : Good Γ Sc X) (hi : X.N[i]? = some x) (hj : X.N[j]? = some y) (hij : i ≠ j)
    (hx : X.env.scope.names.lookup x = some .local) (hy : X.env.scope.names.lookup y = some .local) (ha : JE X dk a wa) (hb : JE X dk b wb)
    (h1 : starEach [a, b] X.env = (false, eval a X.env) :: starEach [b] X.env) (h2 : starEach [b] X.env = (false, eval b X.env) :: starEach [] X.env)
    (hw : swappedStores [.Tuple [.Name x px, .Name y py] kt pt] (.Tuple [a, b] k2 pt2) X.env = pure (some [x, y]))
    (hs : swapsWithSole [.Tuple [.Name x px, .Name y py] kt pt] (.Tuple [a, b] k2 pt2) pos.line X.env = pure false) : JS X dk (.Assign [.Tuple [.Name x px, .Name y py] kt pt] (.Tuple [a, b] k2 pt2) pos) (wPar [i, j] [wa, wb]) := fun P fit =>
  ps_weakL (ps_par G.calm (by rw [G.N]; exact G.nd) hi hj hij hx hy (pa_cons (ha P fit) (pa_cons (hb P fit) pa_nil h2) h1) hw hs) fun D σ H hlen ⟨Hs, ρ, c, E, q, k1, k2, k3, k4⟩ => inE E q fun Hs1 H1 ρ1 v1 r1 g1 E1 q1 h => by
    have lj : j < σ.length := by rw [hlen]; exact (List.getElem?_eq_some_iff.mp hj).1
    obtain ⟨Hs2, g2, E2⟩ := E1.push q1
    refine ⟨[v1], Hs2, _, _, E2, h, fun Hs3 H3 ρ3 v3 r3 g3 E3 q3 h3 => ?_⟩
    obtain ⟨Hs4, g4, E4⟩ := E3.push q3
    refine ⟨v1, v3, rfl, ?_⟩
    have E5 := (ER.mv (i := j) E4)
    rw [mv_set lj] at E5
    have E6 := ER.mv (i := i) E5
    rw [List.set_comm _ _ hij]
    exact k1 _ Hs4 H3 _ (((g1.trans g2).trans g3).trans g4) E6 h3
theorem js_par3 {i j l : Nat} {x y z : Str} {a b d : Expr} {wb wd : W} {px py pz pt : Pos} {kt k2 pt2} (G : Good Γ Sc X) (hi : X.N[i]? = some x) (hj : X.N[j]? = some y) (hl : X.N[l]? = some z) (hij : i ≠ j) (hil : i ≠ l) (hjl : j ≠ l)
    (hx : X.env.scope.names.lookup x = some .local) (hy : X.env.scope.names.lookup y = some .local) (hz : X.env.scope.names.lookup z = some .local) (ha : JE X dk a wa) (hb : JE X dk b wb) (hd : JE X dk d wd)
    (h1 : starEach [a, b, d] X.env = (false, eval a X.env) :: starEach [b, d] X.env) (h2 : starEach [b, d] X.env = (false, eval b X.env) :: starEach [d] X.env) (h3 : starEach [d] X.env = (false, eval d X.env) :: starEach [] X.env)
    (hw : swappedStores [.Tuple [.Name x px, .Name y py, .Name z pz] kt pt] (.Tuple [a, b, d] k2 pt2) X.env = pure (some [x, y, z]))
    (hs : swapsWithSole [.Tuple [.Name x px, .Name y py, .Name z pz] kt pt] (.Tuple [a, b, d] k2 pt2) pos.line X.env = pure false) : JS X dk (.Assign [.Tuple [.Name x px, .Name y py, .Name z pz] kt pt] (.Tuple [a, b, d] k2 pt2) pos) (wPar [i, j, l] [wa, wb, wd]) := fun P fit =>
  ps_weakL (ps_par3 G.calm (by rw [G.N]; exact G.nd) hi hj hl hij hil hjl hx hy hz (pa_cons (ha P fit) (pa_cons (hb P fit) (pa_cons (hd P fit) pa_nil h3) h2) h1) hw hs) fun D σ H hlen ⟨Hs, ρ, c, E, q, k1, k2, k3, k4⟩ => inE E q fun Hs1 H1 ρ1 v1 r1 g1 E1 q1 h => by
    have lj : j < σ.length := by rw [hlen]; exact (List.getElem?_eq_some_iff.mp hj).1
    have ll : l < σ.length := by rw [hlen]; exact (List.getElem?_eq_some_iff.mp hl).1
    obtain ⟨Hs2, g2, E2⟩ := E1.push q1
    refine ⟨[v1], Hs2, _, _, E2, h, fun Hs3 H3 ρ3 v3 r3 g3 E3 q3 h3 => ?_⟩
    obtain ⟨Hs4, g4, E4⟩ := E3.push q3
    rw [← app1] at E4
    refine ⟨[v1] ++ [v3], Hs4, _, _, E4, h3, fun Hs5 H5 ρ5 v5 r5 g5 E5 q5 h5 => ?_⟩
    obtain ⟨Hs6, g6, E6⟩ := E5.push q5
    refine ⟨v1, v3, v5, rfl, ?_⟩
    have E7 := ER.mv (i := l) E6
    rw [mv_set ll, app1] at E7
    have E8 := ER.mv (i := j) E7
    rw [mv_set (by rw [List.length_set]; exact lj)] at E8
    have E9 := ER.mv (i := i) E8
    have e : ((σ.set i (some v1)).set j (some v3)).set l (some v5) = ((σ.set l (some v5)).set j (some v3)).set i (some v1) := by
      rw [List.set_comm (i := i) (j := j) _ _ hij, List.set_comm (i := i) (j := l) _ _ hil, List.set_comm (i := j) (j := l) _ _ hjl]
    rw [e]
    exact k1 _ Hs6 H5 _ (((((g1.trans g2).trans g3).trans g4).trans g5).trans g6) E9 h5

/-! ### loops -/
theorem js_for (G : Good Γ Sc X) (hi : JI X dk tg iter wi) (hg : JG X dk tg ws g) (hb : JSs X dk sts w) (hs : ∀ x, foldedSetIterable iter X.env x = pure x) : JS X dk (.For tg iter sts [] pos) (wFor wi g w) := fun P fit =>
  ps_weak (ps_for G.po G.calm (hi P fit) (hg P fit) (hb P fit) hs) fun D σ H ⟨Hs, ρ, c, E, q, k1, k2, k3, k4⟩ => by
    refine ⟨[], Hs, ρ, _, by rw [nilτ]; exact E, q, fun Hs1 H1 ρ1 xs J g1 E1 jok go => ?_⟩
    rw [nilτ] at E1
    refine ⟨fun i m σ H => m = xs.length - i ∧ i ≤ xs.length ∧ ∃ (Hs2 : Hp) (ρ2 : S), Same Hs1 Hs2 ∧ ER P Hs2 H σ ρ2 ∧ forGo g w (xs.drop i) ρ2 c, ⟨_, rfl, Nat.zero_le _, Hs1, ρ1, Same.refl _, E1, go⟩, ?_⟩
    rintro i m σ H ⟨rfl, hle, Hs2, ρ2, gs, E2, go⟩
    by_cases hlt : i < xs.length
    · right
      refine ⟨jok.go i H (gs.trans E2.sub) hlt, fun σ' H' => i + 1 ≤ xs.length ∧ ∃ (Hs2 : Hp) (ρ2 : S), Same Hs1 Hs2 ∧ ER P Hs2 H' σ' ρ2 ∧ forGo g w (xs.drop (i + 1)) ρ2 c, fun σ' H' hN => ⟨_, by omega, rfl, hN⟩, fun x H' y => ?_⟩
      obtain ⟨d, hd, nr⟩ := jok.yld i H x H' Hs2 (gs.trans E2.sub) gs E2.sub hlt y
      rw [List.drop_eq_getElem_cons hlt] at go
      have hd' : xs[i] = d := Option.some.inj (by rw [← hd]; simp [hlt])
      rw [hd'] at go
      obtain ⟨ρ3, hgs, go⟩ := go
      obtain ⟨Hs3, g3, E3, q3⟩ := NR.er E2 nr
      refine ⟨[], Hs3, ρ2, d, ρ3, by rw [nilτ]; exact E3, q3, hgs, fun σ2 l2 a2 E5 => ?_⟩
      rw [nilτ] at E5
      refine ⟨Hs3, ρ3, _, E5, go, fun σ' Hs' H' ρ' g' E' h => ⟨hlt, Hs', ρ', (gs.trans g3).trans g', E', h⟩, fun σ' Hs' H' ρ' v r g' E' rr h => k2 σ' Hs' H' ρ' v r (((g1.trans gs).trans g3).trans g') E' rr h, fun σ' Hs' H' ρ' g' E' h => k1 σ' Hs' H' ρ' (((g1.trans gs).trans g3).trans g') E' h, fun σ' Hs' H' ρ' g' E' h => ⟨hlt, Hs', ρ', (gs.trans g3).trans g', E', h⟩⟩
    · have e : i = xs.length := by omega
      subst e
      left
      rw [List.drop_length] at go
      exact ⟨jok.stop _ H (gs.trans E2.sub) (Nat.le_refl _), k1 σ Hs2 H ρ2 (g1.trans gs) E2 go⟩
theorem js_while (G : Good Γ Sc X) (hc : JT X dk cnd wt) (hb : JSs X dk sts w) : JS X dk (.While cnd sts [] pos) (wWhile wt w) := fun P fit =>
  ps_weak (ps_while G.po (hc P fit) (hb P fit)) fun D σ H ⟨Hs, ρ, c, E, ⟨I, ⟨m0, i0⟩, turn⟩, k1, k2, k3, k4⟩ => by
    refine ⟨fun m σ H => ∃ (Hs2 : Hp) (ρ2 : S), Same Hs Hs2 ∧ ER P Hs2 H σ ρ2 ∧ I m ρ2, ⟨m0, Hs, ρ, Same.refl _, E, i0⟩, ?_⟩
    rintro m σ H ⟨Hs2, ρ2, gs, E2, i2⟩
    refine inT E2 (turn m ρ2 i2) fun Hs3 H3 ρ3 b g3 E3 h => ?_
    cases b with
    | false => exact k1 σ Hs3 H3 ρ3 (gs.trans g3) E3 h
    | true =>
      refine ⟨fun σ' H' => ∃ (Hs4 : Hp) (ρ4 : S) (m' : Nat), m' < m ∧ Same Hs Hs4 ∧ ER P Hs4 H' σ' ρ4 ∧ I m' ρ4, fun σ' H' ⟨Hs4, ρ4, m', hm, g4, E4, i4⟩ => ⟨m', hm, Hs4, ρ4, g4, E4, i4⟩, Hs3, ρ3, _, E3, h, ?_, ?_, ?_, ?_⟩
      · exact fun σ' Hs' H' ρ' g' E' ⟨m', hm, h⟩ => ⟨Hs', ρ', m', hm, (gs.trans g3).trans g', E', h⟩
      · exact fun σ' Hs' H' ρ' v r g' E' rr h => k2 σ' Hs' H' ρ' v r ((gs.trans g3).trans g') E' rr h
      · exact fun σ' Hs' H' ρ' g' E' h => k1 σ' Hs' H' ρ' ((gs.trans g3).trans g') E' h
      · exact fun σ' Hs' H' ρ' g' E' ⟨m', hm, h⟩ => ⟨Hs', ρ', m', hm, (gs.trans g3).trans g', E', h⟩
end
section
variable {Γ : Gam} {Sc : Sx} {X : Cx} {dk : Option (Addr × Addr)} {elt tg iter : Expr} {ifs : List Expr} {scope : Scope} {own : List (Str × Nat)} {pos spos : Pos} {wi : WI} {g : WG} {ws : List Nat} {tt : WT} {te : W}
/-- name = [.. for .. in ..] on one line -/
theorem js_setLc {i : Nat} {y : Str} {py : Pos} (G : Good Γ Sc X) (hy : X.N[i]? = some y) (hyl : X.env.scope.names.lookup y = some .local) (hsw : swapsWith (.ListComp elt [⟨tg, iter, ifs, 0⟩] scope pos) (some (.Name y py)) spos.line X.env = pure true)
    (hi : JI X dk tg iter wi) (ok : BlkOk X.N X.env.scope scope own) (hw : ∀ j ∈ ws, j ∈ own.map (·.2))
    (hg : ∀ X', Good Γ (Sc.blk scope) X' → JG X' dk tg ws g) (ht : ∀ X', Good Γ (Sc.blk scope) X' → JTs X' dk ifs tt) (he : ∀ X', Good Γ (Sc.blk scope) X' → JE X' dk elt te)
    (hs : ∀ x, foldedSetIterable iter X.env x = pure x) : JS X dk (.Assign [.Name y py] (.ListComp elt [⟨tg, iter, ifs, 0⟩] scope pos) spos) (wSet i (wLc wi g (own.map (·.2)) tt te)) := fun P fit =>
  ps_weakL (ps_setLc G.calm (by rw [G.N]; exact G.nd) hy hyl hsw (hi P fit) ok (fun s H C cl fp => (hg _ (G.blk s H C cl fp)).any) (fun s H C cl fp => (ht _ (G.blk s H C cl fp)).any) (fun s H C cl fp => (he _ (G.blk s H C cl fp)).any) hs) fun D σ H hl ⟨Hs, ρ, c, E, q, k1, k2, k3, k4⟩ => by
    have := lc_lift (P := P) (Q := fun x H1 => gName i x σ H1 D.nx) (ix_lt ok.ix hl) hw (inE E q fun Hs' H' ρ' v r g E' rr h => by
      obtain ⟨Hs2, g2, E2⟩ := E'.putA (i := i) rr
      exact k1 _ Hs2 H' _ (g.trans g2) E2 h)
    rw [fit.K, fit.dk] at this
    exact this
end
end Pz

set_option maxRecDepth 100000
set_option maxHeartbeats 4000000
/-! Pz, part 12: methods, displays of dicts, stores. -/
namespace Pz
open PySem L2 PySem.Spec PyProof.Rows

/-! ### what must be seen of the text -/
def noStar : Expr → Bool
  | .Starred .. => false
  | _ => true
theorem star_cons {e : Expr} {es : List Expr} {env : Env} (h : noStar e = true) : starEach (e :: es) env = (false, eval e env) :: starEach es env := by
  cases e <;> first | rfl | (exact absurd h (by simp [noStar]))
theorem star_plain {pos : Pos} {env : Env} : ∀ {es : List Expr}, es.all noStar = true → (backTo pos (starEach es env)).any (·.1) = false
  | [], _ => rfl
  | e :: es, h => by
    rw [List.all_cons, Bool.and_eq_true] at h
    rw [star_cons h.1]
    show (false || (backTo pos (starEach es env)).any (·.1)) = false
    rw [star_plain h.2]; rfl
theorem star_few {cpos : Pos} {env : Env} {es : List Expr} (h : es.all noStar = true) (hl : es.length < 30) : ((backTo cpos (starEach es env)).all (fun x => !x.1) && (backToKw cpos (keywordEach [] env)).all (fun x => x.1.isSome)
      && decide (es.length + ([] : List Keyword).length + (if ([] : List Keyword).isEmpty then 0 else 1) < 30)) = true := by
  have h1 : (backTo cpos (starEach es env)).all (fun x => !x.1) = true := by
    have := star_plain (pos := cpos) (env := env) h
    rw [List.all_eq_not_any_not]
    simp only [Bool.not_not]
    rw [this]; rfl
  rw [h1]
  simp [backToKw, keywordEach, hl]
def plainO : Expr → Bool
  | .Call (.Name _ _) [] [] _ => false
  | _ => true
theorem base_ok {o : Expr} (h : plainO o = true) (m : Str) (env : Env) (whole : Sem Value) : attributeBase o m env whole = whole := by
  unfold attributeBase
  split
  · exact absurd h (by simp [plainO])
  · rfl
def noComp : Expr → Bool
  | .ListComp .. => false
  | .SetComp .. => false
  | .DictComp .. => false
  | _ => true
theorem noComp_ok {e : Expr} (h : noComp e = true) (t : Option Expr) (l : Nat) (env : Env) : swapsWith e t l env = pure false := by
  cases e <;> first | rfl | (exact absurd h (by simp [noComp]))

/-! ### methods of values -/
inductive Mth where
  | split | words | join | upper | lower
  deriving DecidableEq
def Mth.ty : Mth → String
  | .split => "str" | .words => "str" | .join => "str" | .upper => "str" | .lower => "str"
def Mth.nm : Mth → Str
  | .split => "split" | .words => "split" | .join => "join" | .upper => "upper" | .lower => "lower"
def D.tyS : D → String
  | .str _ => "str"
  | .dic _ _ => "dict"
  | .lst _ => "list"
  | _ => ""
def strsD : List D → Option (List Str)
  | [] => some []
  | .str x :: ds => (strsD ds).map (x :: ·)
  | _ :: _ => none
theorem strsD_eq : ∀ {ds : List D} {xs : List Str}, strsD ds = some xs → ds = xs.map .str
  | [], _, h => by cases h; rfl
  | .str x :: ds, xs, h => by
    simp only [strsD, Option.map_eq_some_iff] at h
    obtain ⟨ys, h1, rfl⟩ := h
    rw [strsD_eq h1]; rfl
  | .non :: _, _, h => by simp [strsD] at h
  | .bl _ :: _, _, h => by simp [strsD] at h
  | .int _ :: _, _, h => by simp [strsD] at h
  | .lst _ :: _, _, h => by simp [strsD] at h
  | .tup _ :: _, _, h => by simp [strsD] at h
  | .dic _ _ :: _, _, h => by simp [strsD] at h
  | .dit _ _ :: _, _, h => by simp [strsD] at h
  | .ins _ _ _ :: _, _, h => by simp [strsD] at h
  | .cst _ :: _, _, h => by simp [strsD] at h
def joinOk (a : Str) (ds : List D) (R : Res → Prop) : Prop := ∃ ys, strsD ds = some ys ∧ (ys.map (·.length)).sum + ys.length * a.length ≤ 16777216 ∧ R (.d (.str (Txt.join a ys)))
/-- the object, the arguments -/
def Mth.fn : Mth → FN
  | .split, [.str a, .str b], R => ((b.length == 0) = false ∧ a.length + 2 ≤ sizeLine) ∧ R (.l ((Txt.split a b).map .str))
  | .words, [.str a], R => a.length + 2 ≤ sizeLine ∧ R (.l ((Txt.words a).map .str))
  | .join, [.str a, .lst ds], R => joinOk a ds R
  | .join, [.str a, .tup ds], R => joinOk a ds R
  | .upper, [.str a], R => a.length ≤ 5592405 ∧ R (.d (.str (Txt.upper a)))
  | .lower, [.str a], R => a.length ≤ 5592405 ∧ R (.d (.str (Txt.lower a)))
  | _, _, _ => False
/-- by values -/
structure MthR (X : Cx) (m : Mth) : Prop where
  ex : ∃ (id : String) (r : V → List V → Hp → VK → Prop), PlainAttrs m.ty ∧ Slot m.ty m.nm id ∧ typeOf (.builtin id) = pure (.type "method_descriptor") ∧ MtR X id r ∧ OpN X.K (fun vs H Q => ∃ x xs, vs = x :: xs ∧ r x xs H Q) m.fn
theorem nl_strs {K : PySem.W.Frag} {Hs H : Hp} {R : Res → Prop} {Q : VK} {ys : List Str} (hf : R (.l (ys.map .str))) (k : ∀ z res H', NR K Hs H z res H' → R res → Q z H') : rNewStrs ys H Q := fun p hp => k _ _ _ (.nl hp (RpL.strs ys)) hf
theorem mth_ok {X : Cx} : ∀ m : Mth, MthR X m
  | .split => ⟨⟨_, _, PySem.F.plainAttrs_str, F.slot_str_split, F.type_str_split, mt_split, fun {Hs H ds vs R Q} e sy hx hf k => by
    match ds, hf with
    | [.str a, .str b], hf =>
      obtain ⟨v, u, rfl, h1, h2⟩ := hx.two
      cases (show v = _ from h1); cases (show u = _ from h2)
      exact ⟨_, _, rfl, a, b, rfl, rfl, hf.1.1, hf.1.2, nl_strs hf.2 k⟩⟩⟩
  | .words => ⟨⟨_, _, PySem.F.plainAttrs_str, F.slot_str_split, F.type_str_split, mt_words, fun {Hs H ds vs R Q} e sy hx hf k => by
    match ds, hf with
    | [.str a], hf =>
      obtain ⟨v, rfl, h1⟩ := hx.one
      cases (show v = _ from h1)
      exact ⟨_, _, rfl, a, rfl, rfl, hf.1, nl_strs hf.2 k⟩⟩⟩
  | .join => ⟨⟨_, _, PySem.F.plainAttrs_str, F.slot_str_join, F.type_str_join, mt_join, fun {Hs H ds vs R Q} e sy hx hf k => by
    match ds, hf with
    | [.str a, .lst ds], hf =>
      obtain ⟨v, u, rfl, h1, p, ws, rfl, h2, h3⟩ := hx.two
      cases (show v = _ from h1)
      obtain ⟨ys, h4, h5, h6⟩ := hf
      rw [strsD_eq h4] at h3
      cases RpL.of_strs h3
      exact ⟨_, _, rfl, a, p, ys, rfl, rfl, .inl (SqL.of h2), h5, k _ _ _ nr_str h6⟩
    | [.str a, .tup ds], hf =>
      obtain ⟨v, u, rfl, h1, p, ws, rfl, h2, h3⟩ := hx.two
      cases (show v = _ from h1)
      obtain ⟨ys, h4, h5, h6⟩ := hf
      rw [strsD_eq h4] at h3
      cases RpL.of_strs h3
      exact ⟨_, _, rfl, a, p, ys, rfl, rfl, .inr (same_t e h2), h5, k _ _ _ nr_str h6⟩⟩⟩
  | .upper => ⟨⟨_, _, PySem.F.plainAttrs_str, F.slot_str_upper, F.type_str_upper, mt_upper, fun {Hs H ds vs R Q} e sy hx hf k => by
    match ds, hf with
    | [.str a], hf =>
      obtain ⟨v, rfl, h1⟩ := hx.one
      cases (show v = _ from h1)
      exact ⟨_, _, rfl, a, rfl, rfl, hf.1, k _ _ _ nr_str hf.2⟩⟩⟩
  | .lower => ⟨⟨_, _, PySem.F.plainAttrs_str, F.slot_str_lower, F.type_str_lower, mt_lower, fun {Hs H ds vs R Q} e sy hx hf k => by
    match ds, hf with
    | [.str a], hf =>
      obtain ⟨v, rfl, h1⟩ := hx.one
      cases (show v = _ from h1)
      exact ⟨_, _, rfl, a, rfl, rfl, hf.1, k _ _ _ nr_str hf.2⟩⟩⟩
theorem tyV_of {K : PySem.W.Frag} {Hs H : Hp} {x : D} {v : V} {T : String} (h : Rt K Hs H x v) (ht : x.tyS = T) (hT : T ≠ "") : tyV K T v H := by
  subst ht
  cases x with
  | str z => cases (show v = _ from h); rfl
  | dic ks xs => obtain ⟨a, vs, rfl, h1, _⟩ := h; exact .inr (.inr (.inl ⟨rfl, .inl ⟨_, h1⟩⟩))
  | lst xs => obtain ⟨a, vs, rfl, h1, _⟩ := h; exact .inl ⟨rfl, _, SqL.of h1⟩
  | _ => exact absurd rfl hT
def wMth (m : Mth) (a : W) (t : WA) : W := fun ρ R => a ρ fun r ρ1 => (∃ x, r.fz.look ρ1 = some x ∧ x.tyS = m.ty) ∧ t ρ1 fun os ρ2 => ∃ ds, looks ρ2 (r.fz :: os) = some ds ∧ m.fn ds fun z => R z ρ2
theorem mty_ne (m : Mth) : m.ty ≠ "" := by cases m <;> decide
section
variable {Γ : Gam} {Sc : Sx} {X : Cx} {dk : Option (Addr × Addr)} {o e : Expr} {es : List Expr} {wo wa : W} {t : WA} {apos cpos p pos : Pos}
theorem je_mth (m : Mth) (ho : JE X dk o wo) (ha : JA X dk (e :: es) t) (hb : plainO o = true) (hl : (apos.endLine == cpos.line) = true) (hs : (e :: es).all noStar = true) (hn : (e :: es).length < 30) : JE X dk (.Call (.Attribute o m.nm apos) (e :: es) [] cpos) (wMth m wo t) := fun P fit => by
  obtain ⟨id, r, h1, h2, h3, h4, h5⟩ := (mth_ok (X := X) m).ex
  have hs' := hs
  rw [List.all_cons, Bool.and_eq_true] at hs'
  refine pe_weak (pe_bm h1 h2 h3 h4 (ho P fit) (ha P fit) (base_ok hb _ _ _) (star_few hs hn) hl (star_cons hs'.1) (star_plain hs'.2)) fun σ H Q ⟨τ, Hs, ρ, R, E, q, k⟩ => ⟨τ, Hs, ρ, _, E, q, fun Hs1 H1 ρ1 v1 r1 g1 E1 q1 ⟨⟨x, hx, ht⟩, h⟩ => ?_⟩
  obtain ⟨Hs2, g2, E2, q2⟩ := q1.fz E1
  rw [← fit.K]
  refine ⟨tyV_of (q2.rt E2 hx) ht (mty_ne m), τ, Hs2, ρ1, _, E2, h, fun Hs3 H3 ρ3 vs os g3 E3 q3 ⟨ds, hl, hf⟩ => ?_⟩
  have hr : ROs P Hs3 (σ ++ τ.map some) (v1 :: vs) (r1.fz :: os) := ⟨v1, vs, rfl, q2.mono g3, q3⟩
  have := opN_go (R := fun z ρ => R z ρ) (Q := Q) (fit.K ▸ h5) E3 hr hl hf fun Hs' H' v r g E' => k Hs' H' ρ3 v r (((g1.trans g2).trans g3).trans g) E'
  obtain ⟨x', xs', e, q⟩ := this
  cases e
  exact q
theorem je_mth0 (m : Mth) (ho : JE X dk o wo) (hb : plainO o = true) (hl : (apos.endLine == cpos.line) = true) : JE X dk (.Call (.Attribute o m.nm apos) [] [] cpos) (wMth m wo waNil) := fun P fit => by
  obtain ⟨id, r, h1, h2, h3, h4, h5⟩ := (mth_ok (X := X) m).ex
  refine pe_weak (pe_bm0 h1 h2 h3 h4 (ho P fit) (base_ok hb _ _ _) hl) fun σ H Q ⟨τ, Hs, ρ, R, E, q, k⟩ => ⟨τ, Hs, ρ, _, E, q, fun Hs1 H1 ρ1 v1 r1 g1 E1 q1 ⟨⟨x, hx, ht⟩, ds, hl, hf⟩ => ?_⟩
  obtain ⟨Hs2, g2, E2, q2⟩ := q1.fz E1
  rw [← fit.K]
  refine ⟨tyV_of (q2.rt E2 hx) ht (mty_ne m), ?_⟩
  have hr : ROs P Hs2 (σ ++ τ.map some) [v1] [r1.fz] := ⟨v1, [], rfl, q2, rfl⟩
  have := opN_go (R := fun z ρ => R z ρ) (Q := Q) (fit.K ▸ h5) E2 hr hl hf fun Hs' H' v r g E' => k Hs' H' ρ1 v r ((g1.trans g2).trans g) E'
  obtain ⟨x', xs', e, q⟩ := this
  cases e
  exact q

/-! ### methods that change a list of the def's own -/
/-- x.append(e) -/
def wApp (i : Nat) (a : W) : W := fun ρ R => (∃ xs, ρ.v[i]? = some (some (.l xs))) ∧ a ρ fun r ρ1 => ∃ d xs, r.fz.look ρ1 = some d ∧ (r.fz.fz ρ1).v[i]? = some (some (.l xs)) ∧ xs.length < sizeLine ∧ R (.d .non) ((r.fz.fz ρ1).set i (.l (xs ++ [d])))
theorem own_lst {P : Pm} {Hs H : Hp} {σ : L2.St} {ρ : S} {i : Nat} {xs : List D} (E : ER P Hs H σ ρ) (h : ρ.v[i]? = some (some (.l xs))) : ∃ a vs, σ[i]? = some (some (.ref a)) ∧ H a = some (.lst vs) ∧ Hs a = none ∧ P.H0 a = none ∧ RpL P.K Hs xs vs := by
  obtain ⟨v, h1, a, vs, rfl, h2, h3, h4, h5⟩ := E.slot i _ h
  exact ⟨a, vs, h1, h4, h2, h3, h5⟩
theorem je_app {i : Nat} {x : Str} (hN : X.N[i]? = some x) (hv : Vis X.env.scope x) (hd : (x == ("__debug__" : Str)) = false) (hcd : (x == ("__classdict__" : Str)) = false) (ha : JE X dk e wa) (hl : (apos.endLine == cpos.line) = true) (hs : noStar e = true) :
    JE X dk (.Call (.Attribute (.Name x p) "append" apos) [e] [] cpos) (wApp i wa) := fun P fit => by
  have hs' : [e].all noStar = true := by simp [hs]
  refine pe_weakL (pe_bm PySem.F.plainAttrs_list F.slot_list_append F.type_list_append mt_append (pe_var hN hv hd hcd) (pa_cons (ha P fit) pa_nil (star_cons hs)) (base_ok rfl _ _ _) (star_few hs' (by simp)) hl (star_cons hs) rfl) fun σ H Q hlen ⟨τ, Hs, ρ, R, E, ⟨⟨xs, h0⟩, h⟩, k⟩ => ?_
  have hi : i < σ.length := by rw [hlen]; exact (List.getElem?_eq_some_iff.mp hN).1
  obtain ⟨a, vs, h1, h2, h3, h4, h5⟩ := own_lst E h0
  rw [← fit.K]
  refine ⟨_, app_get hi h1, .inl ⟨rfl, _, SqL.of h2⟩, τ, Hs, ρ, _, E, h, fun Hs1 H1 ρ1 v1 r1 g1 E1 q1 ⟨d, ys, hlk, hys, hz, hR⟩ => ?_⟩
  obtain ⟨Hs2, g2, E2, q2⟩ := q1.fz E1
  obtain ⟨Hs3, g3, E3, q3⟩ := O.er E2 q2 hlk
  obtain ⟨a', vs', f1, f2, f3, f4, f5⟩ := own_lst E3 hys
  rw [h1] at f1; cases f1
  refine ⟨a, vs', v1, rfl, rfl, f2, by rw [← f5.length]; exact hz, ?_⟩
  exact k Hs3 _ _ _ (.d .non) ((g1.trans g2).trans g3) (E3.mut (b := .l ys) (b' := .l (ys ++ [d])) hys rfl h1 ⟨a, _, rfl, f3, f4, upd_same, f5.append (.cons q3 .nil)⟩ rfl) rfl hR
/-- x.extend(e), x += e for lists: the list e stays -/
def wExt (i : Nat) (a : W) : W := fun ρ R => (∃ xs, ρ.v[i]? = some (some (.l xs))) ∧ a ρ fun r ρ1 => ∃ ds xs, r.fz.look ρ1 = some (.lst ds) ∧ (r.fz.fz ρ1).v[i]? = some (some (.l xs)) ∧ xs.length + ds.length ≤ sizeLine ∧ R (.d .non) ((r.fz.fz ρ1).set i (.l (xs ++ ds)))
theorem je_ext {i : Nat} {x : Str} (hN : X.N[i]? = some x) (hv : Vis X.env.scope x) (hd : (x == ("__debug__" : Str)) = false) (hcd : (x == ("__classdict__" : Str)) = false) (ha : JE X dk e wa) (hl : (apos.endLine == cpos.line) = true) (hs : noStar e = true) :
    JE X dk (.Call (.Attribute (.Name x p) "extend" apos) [e] [] cpos) (wExt i wa) := fun P fit => by
  have hs' : [e].all noStar = true := by simp [hs]
  refine pe_weakL (pe_bm PySem.F.plainAttrs_list F.slot_list_extend F.type_list_extend mt_extend (pe_var hN hv hd hcd) (pa_cons (ha P fit) pa_nil (star_cons hs)) (base_ok rfl _ _ _) (star_few hs' (by simp)) hl (star_cons hs) rfl) fun σ H Q hlen ⟨τ, Hs, ρ, R, E, ⟨⟨xs, h0⟩, h⟩, k⟩ => ?_
  have hi : i < σ.length := by rw [hlen]; exact (List.getElem?_eq_some_iff.mp hN).1
  obtain ⟨a, vs, h1, h2, h3, h4, h5⟩ := own_lst E h0
  rw [← fit.K]
  refine ⟨_, app_get hi h1, .inl ⟨rfl, _, SqL.of h2⟩, τ, Hs, ρ, _, E, h, fun Hs1 H1 ρ1 v1 r1 g1 E1 q1 ⟨d, ys, hlk, hys, hz, hR⟩ => ?_⟩
  obtain ⟨Hs2, g2, E2, q2⟩ := q1.fz E1
  obtain ⟨Hs3, g3, E3, b, ws, rfl, z1, z2⟩ := O.er E2 q2 hlk
  obtain ⟨a', vs', f1, f2, f3, f4, f5⟩ := own_lst E3 hys
  rw [h1] at f1; cases f1
  refine ⟨a, b, vs', ws, rfl, rfl, f2, E3.sub _ _ z1, by rw [← f5.length, ← z2.length]; exact hz, ?_⟩
  exact k Hs3 _ _ _ (.d .non) ((g1.trans g2).trans g3) (E3.mut (b := .l ys) (b' := .l (ys ++ d)) hys rfl h1 ⟨a, _, rfl, f3, f4, upd_same, f5.append z2⟩ rfl) rfl hR
/-- x.pop() -/
def wPop (i : Nat) : W := fun ρ R => ∃ xs d, ρ.v[i]? = some (some (.l xs)) ∧ xs[xs.length - 1]? = some d ∧ R (.d d) (ρ.set i (.l xs.dropLast))
theorem je_pop {i : Nat} {x : Str} (hN : X.N[i]? = some x) (hv : Vis X.env.scope x) (hd : (x == ("__debug__" : Str)) = false) (hcd : (x == ("__classdict__" : Str)) = false) (hl : (apos.endLine == cpos.line) = true) :
    JE X dk (.Call (.Attribute (.Name x p) "pop" apos) [] [] cpos) (wPop i) := fun P fit =>
  pe_weakL (pe_bm0 PySem.F.plainAttrs_list F.slot_list_pop F.type_list_pop mt_pop (pe_var hN hv hd hcd) (base_ok rfl _ _ _) hl) fun σ H Q hlen ⟨τ, Hs, ρ, R, E, ⟨xs, d, h0, hd, h⟩, k⟩ => by
    have hi : i < σ.length := by rw [hlen]; exact (List.getElem?_eq_some_iff.mp hN).1
    obtain ⟨a, vs, h1, h2, h3, h4, h5⟩ := own_lst E h0
    obtain ⟨v, q1, q2⟩ := h5.get hd
    rw [← fit.K]
    refine ⟨_, app_get hi h1, .inl ⟨rfl, _, SqL.of h2⟩, a, vs, v, rfl, rfl, h2, by rw [← h5.length]; exact q1, ?_⟩
    exact k Hs _ _ _ (.d d) (Same.refl _) (E.mut (b := .l xs) (b' := .l xs.dropLast) h0 rfl h1 ⟨a, _, rfl, h3, h4, upd_same, h5.dropLast⟩ rfl) q2 h

/-! ### dicts that are written -/
def wDct0 : W := fun ρ R => R (.m [] []) ρ
theorem je_dct0 : JE X dk (.Dict [] [] pos) wDct0 := fun P fit => pe_weak pe_dnewK fun σ H Q ⟨τ, Hs, ρ, R, E, q, k⟩ p hp => by
  obtain ⟨Hs3, g3, E3, q3⟩ := NR.er E (.nm (ks := []) (ds := []) (vs := []) hp rfl rfl)
  exact k Hs3 _ _ _ _ g3 E3 q3 q
end
def putKs (ks : List Key) (k : Key) : List Key := if hasK ks k = true then ks else ks ++ [k]
def putVs {α : Type} (ks : List Key) (xs : List α) (k : Key) (x : α) : List α := if hasK ks k = true then List.zipWith (fun j y => if j = k then x else y) ks xs else xs ++ [x]
section
variable {K : PySem.W.Frag} {H : Hp}
theorem any_zip {α : Type} {k : Key} : ∀ {ks : List Key} {vs : List α}, ks.length = vs.length → ((ks.zip vs).any fun kv => decide (kv.1 = k)) = hasK ks k
  | [], [], _ => rfl
  | j :: ks, v :: vs, e => by
    rw [List.zip_cons_cons, List.any_cons, any_zip (by simpa using e)]; rfl
  | [], _ :: _, e => by simp at e
  | _ :: _, [], e => by simp at e
theorem map_zip {k : Key} {v : V} : ∀ {ks : List Key} {vs : List V}, ks.length = vs.length → (ks.zip vs).map (fun kv => if kv.1 = k then (kv.1, v) else kv) = ks.zip (List.zipWith (fun j y => if j = k then v else y) ks vs)
  | [], [], _ => rfl
  | j :: ks, u :: vs, e => by
    rw [List.zip_cons_cons, List.map_cons, map_zip (by simpa using e), List.zipWith_cons_cons, List.zip_cons_cons]
    by_cases z : j = k <;> simp [z]
  | [], _ :: _, e => by simp at e
  | _ :: _, [], e => by simp at e
theorem putK_zip {k : Key} {v : V} {ks : List Key} {vs : List V} (e : ks.length = vs.length) : putK (ks.zip vs) k v = (putKs ks k).zip (putVs ks vs k v) := by
  unfold putK putKs putVs
  rw [any_zip e]
  by_cases h : hasK ks k = true
  · rw [if_pos h, if_pos h, if_pos h, map_zip e]
  · rw [if_neg h, if_neg h, if_neg h, List.zip_append e]; rfl
theorem putVs_len {α : Type} {k : Key} {x : α} {ks : List Key} {xs : List α} (e : ks.length = xs.length) : (putKs ks k).length = (putVs ks xs k x).length := by
  unfold putKs putVs
  split
  · rw [List.length_zipWith, ← e, Nat.min_self]
  · simp [e]
theorem RpL.zipWith {k : Key} {d : D} {v : V} (h : Rp K H d v) : ∀ {ks : List Key} {ds : List D} {vs : List V}, RpL K H ds vs → RpL K H (List.zipWith (fun j y => if j = k then d else y) ks ds) (List.zipWith (fun j y => if j = k then v else y) ks vs)
  | [], _, _, _ => rfl
  | j :: ks, [], _, hr => by cases (show _ = [] from hr); rfl
  | j :: ks, x :: ds, _, ⟨u, r, e, h1, h2⟩ => by
    subst e
    rw [List.zipWith_cons_cons, List.zipWith_cons_cons]
    refine ⟨_, _, rfl, ?_, RpL.zipWith h h2⟩
    by_cases z : j = k
    · rw [if_pos z, if_pos z]; exact h
    · rw [if_neg z, if_neg z]; exact h1
theorem RpL.putVs {k : Key} {d : D} {v : V} {ks : List Key} {ds : List D} {vs : List V} (h : Rp K H d v) (hr : RpL K H ds vs) : RpL K H (putVs ks ds k d) (putVs ks vs k v) := by
  unfold Pz.putVs
  split
  · exact hr.zipWith h
  · exact hr.append (.cons h .nil)
/-- the pairs, from the left -/
def mrgD : List (Key × D) → List Key → List D → List Key × List D
  | [], ks, ds => (ks, ds)
  | p :: ps, ks, ds => mrgD ps (putKs ks p.1) (putVs ks ds p.1 p.2)
theorem mrg_rp : ∀ {ps : List (Key × D)} {qs : List (Key × V)} {ks : List Key} {ds : List D} {vs : List V}, ps.map (·.1) = qs.map (·.1) → RpL K H (ps.map (·.2)) (qs.map (·.2)) → ks.length = ds.length → RpL K H ds vs →
    ∃ vs', mergeK (ks.zip vs) qs = (mrgD ps ks ds).1.zip vs' ∧ (mrgD ps ks ds).1.length = (mrgD ps ks ds).2.length ∧ RpL K H (mrgD ps ks ds).2 vs'
  | [], [], ks, ds, vs, _, _, e, h => ⟨vs, rfl, e, h⟩
  | p :: ps, q :: qs, ks, ds, vs, e1, ⟨v, r, e2, h1, h2⟩, e, h => by
    rw [List.map_cons] at e2
    cases e2
    simp only [List.map_cons, List.cons.injEq] at e1
    obtain ⟨vs', z1, z2, z3⟩ := mrg_rp (ks := putKs ks p.1) (ds := putVs ks ds p.1 p.2) (vs := putVs ks vs p.1 q.2) e1.2 h2 (putVs_len e) (h.putVs h1)
    refine ⟨vs', ?_, z2, z3⟩
    show mergeK (putK (ks.zip vs) q.1 q.2) qs = _
    rw [putK_zip (e.trans h.length), ← e1.1]
    exact z1
  | [], _ :: _, _, _, _, e1, _, _, _ => by simp at e1
  | _ :: _, [], _, _, _, e1, _, _, _ => by simp at e1
end
/-- {k: v, ..}: texts or ints as keys -/
def dspGo : List (W × W) → List (Key × D) → S → (List (Key × D) → S → Prop) → Prop
  | [], acc, ρ, K => K acc ρ
  | p :: r, acc, ρ, K => p.1 ρ fun r1 ρ1 => p.2 ρ1 fun r2 ρ2 => ∃ x k d, r1.fz = .d x ∧ keyOf x = some k ∧ r2.fz.look ρ2 = some d ∧ dspGo r (acc ++ [(k, d)]) (r2.fz.fz ρ2) K
def wDct (ps : List (W × W)) : W := fun ρ R => dspGo ps [] ρ fun acc ρ' => R (.m (mrgD acc [] []).1 (mrgD acc [] []).2) ρ'
/-- the pairs of a display -/
inductive JPs (X : Cx) (dk : Option (Addr × Addr)) : List (Option Expr) → List Expr → List (W × W) → Prop
  | nil : JPs X dk [] [] []
  | cons {k v : Expr} {ks : List (Option Expr)} {vs : List Expr} {wk wv : W} {ps : List (W × W)} : JE X dk k wk → JE X dk v wv → JPs X dk ks vs ps → JPs X dk (some k :: ks) (v :: vs) ((wk, wv) :: ps)
section
variable {X : Cx} {dk : Option (Addr × Addr)} {pos : Pos}
theorem JPs.pps {ks : List (Option Expr)} {vs : List Expr} {ps : List (W × W)} (h : JPs X dk ks vs ps) : PPs X pos ks vs (ps.map fun p => (liftX X.K dk p.1, liftX X.K dk p.2)) := by
  induction h with
  | nil => exact pps_nil
  | cons h1 h2 _ ih => exact pps_cons h1.any h2.any ih
theorem JPs.shape {ks : List (Option Expr)} {vs : List Expr} {ps : List (W × W)} (h : JPs X dk ks vs ps) : ks.all (·.isSome) = true ∧ ks.length = vs.length ∧ ks.length = ps.length := by
  induction h with
  | nil => exact ⟨rfl, rfl, rfl⟩
  | cons h1 h2 _ ih => exact ⟨by simpa using ih.1, by simp [ih.2.1], by simp [ih.2.2]⟩
theorem dsp_lift {P : Pm} {τ : List V} {σ : L2.St} {Q : List (V × V) → Hp → Prop} : ∀ {ps : List (W × W)} {acc : List (Key × D)} {vacc : List (Key × V)} {Hs H : Hp} {ρ : S} {K : List (Key × D) → S → Prop}, ER P Hs H (σ ++ τ.map some) ρ → acc.map (·.1) = vacc.map (·.1) → RpL P.K Hs (acc.map (·.2)) (vacc.map (·.2)) → dspGo ps acc ρ K →
    (∀ Hs' H' ρ' qs qv, Same Hs Hs' → ER P Hs' H' (σ ++ τ.map some) ρ' → (acc ++ qs).map (·.1) = (vacc ++ qv).map (·.1) → RpL P.K Hs' ((acc ++ qs).map (·.2)) ((vacc ++ qv).map (·.2)) → qv.length = ps.length → K (acc ++ qs) ρ' → Q (qv.map fun kv => (kV kv.1, kv.2)) H') →
    tPairs (ps.map fun p => (liftX P.K P.dk p.1, liftX P.K P.dk p.2)) σ H Q
  | [], acc, vacc, Hs, H, ρ, K, E, e1, e2, h, k => k Hs H ρ [] [] (Same.refl _) E (by simpa using e1) (by simpa using e2) rfl (by rw [List.append_nil]; exact h)
  | p :: ps, acc, vacc, Hs, H, ρ, K, E, e1, e2, h, k => by
    refine ⟨P, ⟨rfl, rfl⟩, τ, Hs, ρ, _, E, h, fun Hs1 H1 ρ1 v1 r1 g1 E1 q1 h1 => ?_⟩
    refine ⟨P, ⟨rfl, rfl⟩, τ, Hs1, ρ1, _, E1, h1, fun Hs2 H2 ρ2 v2 r2 g2 E2 q2 ⟨x, kk, d, ex, hk, hd, h2⟩ => ?_⟩
    obtain ⟨Hs3, g3, E3, q3⟩ := q2.fz E2
    obtain ⟨Hs4, g4, E4, q4⟩ := O.er E3 q3 hd
    have hx : v1 = kV kk := by
      cases r1 with
      | d y =>
        cases ex
        exact keyOf_rp (Hs := Hs1) (H := H1) hk (Rt.of E1.sub q1)
      | l ys => cases ex; cases hk
      | m ks ys => cases ex; cases hk
      | p i => cases ex
    subst hx
    have gg := ((g1.trans g2).trans g3).trans g4
    refine dsp_lift (acc := acc ++ [(kk, d)]) (vacc := vacc ++ [(kk, v2)]) E4 (by simp [e1]) ?_ h2 fun Hs' H' ρ' qs qv g E' f1 f2 f3 hK => ?_
    · rw [List.map_append, List.map_append]
      exact (RpL.mono gg _ _ e2).append (.cons q4 .nil)
    · have := k Hs' H' ρ' ((kk, d) :: qs) ((kk, v2) :: qv) (gg.trans g) E' (by simpa using f1) (by simpa using f2) (by simp [f3]) (by simpa using hK)
      simpa using this
theorem je_dct {ks : List (Option Expr)} {vs : List Expr} {ps : List (W × W)} (h : JPs X dk ks vs ps) (h0 : ks ≠ []) (h15 : ks.length ≤ 15) : JE X dk (.Dict ks vs pos) (wDct ps) := fun P fit => by
  obtain ⟨s1, s2, s3⟩ := h.shape
  refine pe_weak (pe_disp h.pps s1 s2 h0 h15) fun σ H Q ⟨τ, Hs, ρ, R, E, q, k⟩ p hp => ?_
  obtain ⟨E2, hs, h0', hf⟩ := E.new (o := .dK []) hp
  have hs0 : P.Hs0 p = none := Same.free E.grow hs
  have nd : ¬ inDk P.dk p := fun z => E.dkin p z h0'
  have EH := hold_of E2 hs h0' upd_same hf
  rw [← fit.K, ← fit.dk]
  refine dsp_lift (P := P.hold p (.dK [])) (acc := []) (vacc := []) EH rfl rfl q fun Hs' H' ρ' qs qv g E' f1 f2 f3 hK => ?_
  obtain ⟨E3, n1, n2, n3⟩ := hold_back E' h0' hs0 nd
  refine ⟨n1, qv, rfl, by rw [f3, ← s3]; exact h15, ?_⟩
  obtain ⟨vs', z1, z2, z3⟩ := mrg_rp (ks := []) (ds := []) (vs := []) f1 f2 rfl rfl
  have z1' : mergeK [] qv = (mrgD qs [] []).1.zip vs' := z1
  rw [z1']
  exact k Hs' _ ρ' _ (.m _ _) g (E3.upd1 n2 h0' n3) ⟨⟨p, vs', rfl, n2, h0', upd_same, z2, z3⟩, n3⟩ hK

/-! ### isinstance -/
def tyD (t : Ty) : D := .cst (.ty t.nm)
def gIsi2 : FN
  | [x, .cst (.ty nm)], R => x.isD = true ∧ ∃ t : Ty, t.nm = nm ∧ R (.d (.bl (x.isTy t)))
  | _, _ => False
/-- isinstance(e, T) -/
def wIsi (t : Ty) (a : W) : W := fun ρ R => a ρ fun r ρ' => ∃ x, r.fz.look ρ' = some x ∧ x.isD = true ∧ R (.d (.bl (x.isTy t))) ρ'
def Ty.nmS : Ty → Str
  | .int => "int" | .bool => "bool" | .str => "str" | .tuple => "tuple" | .list => "list" | .dict => "dict"
theorem ty_boot (t : Ty) : bootBuiltins t.nmS = some (.type t.nm) := by cases t <;> rfl
theorem je_isi {e : Expr} {wa : W} {p p2 : Pos} (t : Ty) (hg : Gl X "isinstance") (hm : X.mg "isinstance" = none) (hg2 : Gl X t.nmS) (hm2 : X.mg t.nmS = none) (ha : JE X dk e wa) (hs : noStar e = true) : JE X dk (.Call (.Name "isinstance" p) [e, .Name t.nmS p2] [] pos) (wIsi t wa) := fun P fit => by
  have ht : PE X (.Name t.nmS p2) (tC (.ty t.nm)) := pe_bltn hg2 hm2 (ty_boot t) rfl (by cases t <;> decide) (by cases t <;> decide)
  refine pe_weak (pe_callB (call_isiZ t) hg hm rfl (pa_cons (ha P fit) (pa_cons ht pa_nil (star_cons rfl)) (star_cons hs)) (by decide) (by decide) (star_cons hs) rfl) fun σ H Q ⟨τ, Hs, ρ, R, E, q, k⟩ => ⟨τ, Hs, ρ, _, E, q, fun Hs1 H1 ρ1 v1 r1 g1 E1 q1 ⟨x, hx, hd, h⟩ => ?_⟩
  obtain ⟨Hs2, g2, E2, q2⟩ := q1.fz E1
  refine ⟨v1, x, rfl, E2.sysH, by rw [← fit.K]; exact (q2.rt E2 hx).rp E2.sub, hd, k Hs2 H1 ρ1 _ (.d (.bl (x.isTy t))) (g1.trans g2) E2 rfl h⟩
end
end Pz

set_option maxRecDepth 100000
set_option maxHeartbeats 4000000
/-! Pz, part 23: sets of texts, made of a list or a tuple, sorted. -/
namespace Pz
open PySem L2 PySem.Spec PyProof.Rows

def txt : Value → Str
  | .str x _ => x
  | _ => Str.empty
def TxE (w : World) (e : Int × Value) : Prop := ∃ x t, e.2 = Value.str x t ∧ e.1 = hashStr w x
def txs (tb : Array (Int × Value)) : List Str := tb.toList.map fun e => txt e.2
def ordOk (w : World) (m : SetTable) : Prop := w.params.followText "set-order" = true ∨ m.led = true
/-- the set at a has the texts L -/
structure TxR (w : World) (h : Heap) (a : Addr) (L : List Str) (ob : Obj) (tb : Array (Int × Value)) (g : Nat) (m : SetTable) : Prop where
  at_ : h.get? a = some ob
  ex : ob.ExactSet
  dat : ob.data = .set tb g m
  all : ∀ e ∈ tb.toList, TxE w e
  perm : (txs tb).Perm L
  nd : L.Nodup
  few : L.length < scanBound
  fit : m.fits tb.size = true
  ris : Ris m.place.toList
  ord : ordOk w m
def TxS (w : World) (h : Heap) (a : Addr) (L : List Str) : Prop := ∃ ob tb g m, TxR w h a L ob tb g m
def addT (L : List Str) (x : Str) : List Str := if x ∈ L then L else x :: L
def setL (xs : List Str) : List Str := xs.foldl addT []

section
variable {P : Program} {w : World} {A : Around} {E : Value → Shared → Prop} {s : Shared} {a : Addr} {L : List Str} {ob : Obj} {tb : Array (Int × Value)} {g : Nat} {m : SetTable}
theorem TxR.size (R : TxR w s.heap a L ob tb g m) : tb.size = L.length := by
  have := R.perm.length_eq
  simpa [txs] using this
theorem tx_elems {l : List (Int × Value)} (h : ∀ e ∈ l, TxE w e) : ElemsOf (PySem.strKind P w) l := fun e he => by
  obtain ⟨x, t, q1, q2⟩ := h e he
  exact ⟨⟨x, by rw [q1]; exact strKind_is _ _ _ _, q2⟩, by rw [q1]; rfl⟩
theorem tx_is {e : Int × Value} (h : TxE w e) (x : Str) : (PySem.strKind P w).is x e.2 = true ↔ txt e.2 = x := by
  obtain ⟨y, t, q1, _⟩ := h
  rw [q1]
  constructor
  · intro z
    exact Value.isStrOf_inj (.str y t) y x (strKind_is P w y t) z
  · rintro rfl
    exact strKind_is P w y t
theorem tx_mem (R : TxR w s.heap a L ob tb g m) (x : Str) : x ∈ L ↔ ∃ e ∈ tb.toList, (PySem.strKind P w).is x e.2 = true := by
  rw [← R.perm.mem_iff, txs, List.mem_map]
  exact ⟨fun ⟨e, h1, h2⟩ => ⟨e, h1, (tx_is (R.all e h1) x).2 h2⟩, fun ⟨e, h1, h2⟩ => ⟨e, h1, (tx_is (R.all e h1) x).1 h2⟩⟩
theorem put_at {h : Heap} {tb' : Array (Int × Value)} {m' : SetTable} (h1 : h.get? a = some ob) (h2 : ob.data = .set tb g m) : (h.update a (Obj.putSet tb' m')).get? a = some { ob with data := .set tb' (g + 1) m' } := by
  have z := Heap.get?_update_self (Obj.putSet tb' m') h1 (by rw [putSet_of tb' m' h2]; rfl)
  rwa [putSet_of tb' m' h2] at z
/-- behind the store of a new text -/
theorem tx_tail {gv : Bool → Sem Unit} {dm : Bool} {tb1 : Array (Int × Value)} {m1 : SetTable} {L1 : List Str} {Q : Option Bool → Shared → Prop} (hgv : ∀ (b : Bool) (s1 : Shared) (Q' : Unit → Shared → Prop), Q' () s1 → wpAny (model P w) A (gv b) Q' E s1)
    (h1 : s.heap.get? a = some ob) (h2 : ob.ExactSet) (h3 : ob.data = .set tb g m) (k1 : ∀ e ∈ tb1.toList, TxE w e) (k2 : (txs tb1).Perm L1) (k3 : L1.Nodup) (k4 : L1.length < scanBound) (k5 : m1.fits tb1.size = true) (k6 : Ris m1.place.toList) (k7 : ordOk w m1)
    (hQ : ∀ h', Heap.SameBut a s.heap h' → TxS w h' a L1 → Q (some true) { s with heap := h' }) :
    wpAny (model P w) A (do
      storeSet a tb1 m1
      if (!dm && m1.tooFull) = true then do
        gv (relayAll m1 tb1 (SetTable.grown tb1.size)).2.2
        storeSet a (relayAll m1 tb1 (SetTable.grown tb1.size)).1 (relayAll m1 tb1 (SetTable.grown tb1.size)).2.1
        pure (some true)
      else pure (some true)) Q E s := by
  have z1 : tb1.size < scanBound := by have := k2.length_eq; simp only [txs, List.length_map, Array.length_toList] at this; omega
  refine wpAny_bind (wpAny_storeSet_of h1 h3 ?_ (fits_of_scanBound z1))
  have q1 := put_at (tb' := tb1) (m' := m1) h1 h3
  have b1 : Heap.SameBut a s.heap (s.heap.update a (Obj.putSet tb1 m1)) := .update ..
  by_cases c : (!dm && m1.tooFull) = true
  · rw [if_pos c]
    have p2 := relayAll_perm m1 tb1 (SetTable.grown tb1.size)
    have p3 := relayAll_fits m1 tb1 (SetTable.grown tb1.size)
    have p4 := relayAll_ris m1 tb1 (SetTable.grown tb1.size)
    have p5 := relayAll_led m1 tb1 (SetTable.grown tb1.size)
    revert p2 p3 p4 p5
    generalize relayAll m1 tb1 (SetTable.grown tb1.size) = Z
    obtain ⟨tb2, m2, gave⟩ := Z
    intro p2 p3 p4 p5
    simp only at p2 p3 p4 p5 ⊢
    refine wpAny_bind (hgv _ _ _ (wpAny_bind (wpAny_storeSet_of q1 rfl (wpAny_pure (hQ _ (b1.trans (.update ..)) ⟨_, tb2, _, m2, put_at q1 rfl, h2, rfl, fun e he => k1 e (p2.mem_iff.mp he), (p2.map _).trans k2, k3, k4, p3, p4, k7.imp id fun z => by rw [p5]; exact z⟩)) (fits_of_scanBound ?_))))
    rw [← Array.length_toList, p2.length_eq, Array.length_toList]; exact z1
  · rw [if_neg c]
    exact wpAny_pure (hQ _ b1 ⟨_, tb1, _, m1, q1, h2, rfl, k1, k2, k3, k4, k5, k6, k7⟩)
theorem tx_add {x : Str} {t : Tok} {Q : Bool → Shared → Prop} (S : TxS w s.heap a L) (few : L.length + 1 < scanBound) (hQ : ∀ b h', Heap.SameBut a s.heap h' → TxS w h' a (addT L x) → Q b { s with heap := h' }) :
    wpAny (model P w) A (setAddHashed a (.str x t) ((PySem.strKind P w).hash x)) Q E s := by
  obtain ⟨ob, tb, g, m, R⟩ := S
  have hk : (PySem.strKind P w).is x (.str x t) = true := strKind_is _ _ _ _
  have he := tx_elems (P := P) R.all
  have hz : tb.size < scanBound := by have := R.size; omega
  unfold setAddHashed setAddHashedIn
  refine wpAny_holding (wpAny_bind (wpAny_setState_of R.at_ R.dat R.fit ?_))
  simp only []
  rw [if_pos (byScan_of (x := .str x t) rfl hz he)]
  unfold setAddByScan
  refine wpAny_bind (wpAny_bind (wpAny_rule (wpAny_bind (wpAny_setScan_of hk R.at_ R.dat R.fit he ?_))))
  cases hf : tb.toList.findIdx? (fun e => (PySem.strKind P w).is x e.2) with
  | some j =>
    obtain ⟨hj, pj, _⟩ := List.findIdx?_eq_some_iff_getElem.mp hf
    have hm : x ∈ L := (tx_mem (P := P) R x).2 ⟨_, List.getElem_mem hj, pj⟩
    refine wpAny_pure (wpAny_pure (hQ _ s.heap (.refl ..) ?_))
    rw [addT, if_pos hm]
    exact ⟨ob, tb, g, m, R⟩
  | none =>
    have hm : x ∉ L := fun z => by
      obtain ⟨e, h1, h2⟩ := (tx_mem (P := P) R x).1 z
      have := List.findIdx?_eq_none_iff.mp hf e h1
      rw [h2] at this; cases this
    have eL : addT L x = x :: L := if_neg hm
    rw [eL] at hQ
    have p1 := layNew_perm m tb ((PySem.strKind P w).hash x) (.str x t)
    have p2 := layNew_fits m tb ((PySem.strKind P w).hash x) (.str x t)
    have p3 := layNew_ris m tb ((PySem.strKind P w).hash x) (.str x t) R.ris
    have p4 := layNew_led m tb ((PySem.strKind P w).hash x) (.str x t)
    simp only []
    revert p1 p2 p3 p4
    generalize layNew m tb ((PySem.strKind P w).hash x) (.str x t) = Z
    obtain ⟨tb1, m1, dm, gave⟩ := Z
    intro p1 p2 p3 p4
    simp only at p1 p2 p3 p4 ⊢
    have p0 : tb1.toList.Perm (((PySem.strKind P w).hash x, Value.str x t) :: tb.toList) := by
      rw [Array.toList_push] at p1; exact p1.trans (List.perm_append_singleton ..)
    have k1 : ∀ e ∈ tb1.toList, TxE w e := fun e z => by
      rcases List.mem_cons.mp (p0.mem_iff.mp z) with z | z
      · subst z; exact ⟨x, t, rfl, rfl⟩
      · exact R.all e z
    have k2 : (txs tb1).Perm (x :: L) := by
      have z := p0.map fun e => txt e.2
      exact z.trans (R.perm.cons x)
    have k3 : (x :: L).Nodup := List.nodup_cons.mpr ⟨hm, R.nd⟩
    have hrule : ∀ (b : Bool) (s1 : Shared) (Q' : Unit → Shared → Prop), Q' () s1 → wpAny (model P w) A (match b with | true => rule "set.scan.the-table-gave-way" | false => pure ()) Q' E s1 := fun b s1 Q' q => by
      cases b
      · exact wpAny_pure q
      · exact wpAny_rule q
    have ko : ordOk w m1 := R.ord.imp id fun z => p4.trans z
    have fin : ∀ h', Heap.SameBut a s.heap h' → TxS w h' a (x :: L) → wpAny (model P w) A (match some true with | some added => pure added | none => setAddHashedIn a (.str x t) ((PySem.strKind P w).hash x) 99999) Q E { s with heap := h' } := fun h' sb S => wpAny_pure (hQ true h' sb S)
    refine wpAny_bind (hrule gave _ _ ?_)
    by_cases hp : m1.plain = true
    · rw [if_pos hp, hashByValue_scannable 8 (x := .str x t) rfl]
      refine wpAny_bind (wpAny_pure (tx_tail hrule R.at_ R.ex R.dat k1 k2 k3 few ?_ ?_ ?_ fin))
      · split
        · exact p2
        · exact SetTable.fits_plain_off p2
      · split <;> exact p3
      · split <;> exact ko
    · rw [if_neg hp]
      refine wpAny_bind (wpAny_pure ?_)
      rw [if_pos rfl]
      exact tx_tail hrule R.at_ R.ex R.dat k1 k2 k3 few p2 p3 ko fin
end

/-! ### made of what is walked -/
theorem setL_snoc {xs : List Str} {i : Nat} (h : i < xs.length) : setL (xs.take (i + 1)) = addT (setL (xs.take i)) xs[i] := by
  unfold setL
  rw [List.take_succ_eq_append_getElem h, List.foldl_append]
  rfl
theorem addT_len {L : List Str} {x : Str} : (addT L x).length ≤ L.length + 1 := by
  unfold addT; split
  · omega
  · simp
theorem setL_len : ∀ (i : Nat) (xs : List Str), (setL (xs.take i)).length ≤ i
  | 0, xs => by simp [setL]
  | i + 1, xs => by
    by_cases h : i < xs.length
    · rw [setL_snoc h]
      have := addT_len (L := setL (xs.take i)) (x := xs[i])
      have := setL_len i xs
      omega
    · have q := setL_len i xs
      rw [List.take_of_length_le (by omega)] at q
      rw [List.take_of_length_le (by omega)]
      omega
section
variable {P : Program} {w : World} {A : Around} {R : Result → Shared → Prop} {it : Addr} {fp wr : List Addr} {G : Array GenState → Array GenState → Prop} {n : Nat} {Pv : Nat → Value → Prop} {St : Nat → Shared → Prop}
theorem tx_walk (W : WalksS P w A.in1 it fp wr G n Pv St) (a : Addr) (ha : a ∉ fp) (xs : List Str) (hn : xs.length = n) (few : n + 1 < scanBound) (hv : ∀ (i : Nat) (h : i < xs.length) v, Pv i v → ∃ t, v = .str xs[i] t) :
    ∀ (d i : Nat) (s : Shared), i + d = n → St i s → TxS w s.heap a (setL (xs.take i)) → (∀ s', Moved (a :: wr) G s s' → TxS w s'.heap a (setL xs) → R (.ok (.ret .none)) s') → codeAny (model P w) A (.builtin "set.update.loop" ⟨[.ref a, .ref it], []⟩) R s := by
  have aw : a ∉ wr := fun z => ha (W.sub _ z)
  have up : ∀ b ∈ wr, b ∈ a :: wr := fun b z => .tail _ z
  intro d
  induction d with
  | zero =>
    intro i s e st S hR
    have e : i = n := e
    subst e
    refine codeAny_builtin PyProof.Rows.F.entry_set_update_loop ?_
    rw [Around.under_plainId PyProof.Rows.F.plain_set_update_loop _]
    refine wpAny_bind (m := pyNext (.ref it)) (W.done s _ _ st fun s' mv => ?_)
    rw [List.take_of_length_le (by omega)] at S
    obtain ⟨ob, tb, g, m, S⟩ := S
    exact wpAny_pure (hR s' (mv.mono up) ⟨ob, tb, g, m, { S with at_ := mv.heap a _ aw S.at_ }⟩)
  | succ d ih =>
    intro i s e st S hR
    have lt : i < n := by omega
    have lx : i < xs.length := by omega
    refine codeAny_builtin PyProof.Rows.F.entry_set_update_loop ?_
    rw [Around.under_plainId PyProof.Rows.F.plain_set_update_loop _]
    refine wpAny_bind (m := pyNext (.ref it)) (W.item i s _ _ lt st fun v s1 pv st1 mv => ?_)
    obtain ⟨t, rfl⟩ := hv i lx v pv
    obtain ⟨ob, tb, g, m, S⟩ := S
    have S1 : TxS w s1.heap a (setL (xs.take i)) := ⟨ob, tb, g, m, { S with at_ := mv.heap a _ aw S.at_ }⟩
    refine wpAny_bind (m := holding [Value.str xs[i] t] (setAdd a (.str xs[i] t))) (wpAny_holding ?_)
    unfold setAdd
    refine wpAny_holding (wpAny_bind ((PySem.strKind P w).pyHash (k := xs[i]) (strKind_is _ _ _ _) ?_))
    refine tx_add (s := { s1 with toks := s1.toks + 1 }) S1 (by have := setL_len i xs; omega) fun b h' sb S2 => ?_
    rw [← setL_snoc lx] at S2
    have ne : ∀ c o, c ≠ a → s1.heap.get? c = some o → h'.get? c = some o := fun c o z q => (sb.2 c z).trans q
    refine wpAny_pure ⟨plainId_quiet PyProof.Rows.F.plain_set_update_loop _, ih (i + 1) _ (by omega) (W.frame _ s1 _ _ st1 (Nat.le_succ _) fun c z o q => ne c o (fun y => ha (y ▸ z)) q) S2 fun s2 mv2 S3 => ?_⟩
    exact hR s2 (Moved.trans W.gtrans ((mv.mono up).then_heap (Nat.le_succ _) fun c o z q => ne c o (fun y => z (y ▸ List.mem_cons_self)) q) mv2) S3
end

set_option maxHeartbeats 8000000 in
theorem call_set_listtx {P : Program} {w : World} {A : Around} {E : Value → Shared → Prop} {s : Shared} {l : Addr} {its : Array Value} {xs : List Str} {Q : Value → Shared → Prop} (hh : A.handled = none) (hl : s.heap.IsList l its) (hx : its.size = xs.length) (hv : ∀ (i : Nat) (h : i < xs.length) v, its[i]? = some v → ∃ t, v = .str xs[i] t) (few : xs.length + 1 < scanBound)
    (hQ : ∀ (h' : Heap) (tk : Nat), TxS w h' s.heap.objs.size (setL xs) → (∀ b o, s.heap.get? b = some o → h'.get? b = some o) → Q (.ref s.heap.objs.size) { s with heap := h', toks := tk }) : wpAny (model P w) A (call (.type "set") [.ref l]) Q E s := by
  obtain ⟨mc, mt, mro⟩ := PySem.F.called_set.mro
  have x1 := PySem.F.called_set.made
  have x2 := PySem.F.called_set.sub
  have x3 := PySem.F.called_set.notType
  have x4 := PySem.F.called_set.canCreate
  have x5 := PySem.F.typeCall_set_1 (.ref l)
  refine wpAny_call (codeAny_of_tree (?_ : wpAny _ _ (callAny (.type "set") _) _ _ _))
  refine wpAny_pure ⟨Code.quiet_builtin _ (by decide +kernel), codeAny_builtin PySem.F.entry_type_call ?_⟩
  rw [Around.under_plain (weight_type_call_type "set" [.ref l] []) rfl]
  (repeat (any_goals (first | assumption | wp_step)))
  let nw : Obj := { cls := .type "set", dict := none, data := .set #[] 0 (.fresh 0 0 (!w.params.followText "set-order")) }
  refine codeAny_mono (code_set_led1 (.ref l) (E := E) (Q₁ := fun u s1 => u = .ref s.heap.objs.size ∧ s1 = { s with heap := s.heap.push nw }) ⟨rfl, rfl⟩) fun r s1 hr => ?_
  match r, hr with
  | .error _, hr => exact hr
  | .ok (.ret u), hr =>
    obtain ⟨rfl, rfl⟩ := hr
    have y1 : (s.heap.push nw).get? s.heap.objs.size = some nw := Heap.get?_push_size _ rfl
    have y2 : Shared.TypeIs { s with heap := s.heap.push nw } (.ref s.heap.objs.size) "set" := ⟨nw, y1, rfl⟩
    have y3 := PySem.F.called_set.init.lookup
    have y4 := PySem.F.called_set.init.bind (.ref s.heap.objs.size)
    (repeat (any_goals (first | assumption | wp_step)))
    refine codeAny_mono (codeAny_call_builtin (R := wants (fun r s2 => r = .none ∧ ∃ h' tk, s2 = { s with heap := h', toks := tk } ∧ TxS w h' s.heap.objs.size (setL xs) ∧ ∀ b o, s.heap.get? b = some o → h'.get? b = some o) E) PySem.F.called_set.init.plain PySem.F.entry_set_init (check_set_init_1 y2 ?_)) fun r2 s2 hr2 => ?_
    · obtain ⟨lo, q1, q2, ln, q3⟩ := hl
      obtain ⟨lc, ld, lt, ls⟩ := lo
      simp only at q2 q3
      subst q2 q3
      have q4 : (s.heap.push nw).get? l = some { cls := .type "list", dict := ld, data := .seq its ln, slots := ls } := Heap.get?_push_of_some _ q1
      have z1 := PySem.F.sub_list_set
      have z2 := PySem.F.sub_list_frozenset
      have z3 : (Value.type "list" == Value.type "dict") = false := by decide
      have z4 : (s.heap.push nw).IsList l its := ⟨_, q4, rfl, ln, rfl⟩
      unfold Builtin.«set.__init__» noKeywords Builtin.Frozenset.updateFrom
      generalize eI : pyIter = pI
      wp_walk
      subst eI
      refine wpAny_pyIter_list z4 (wpAny_bind (wpAny_runValue ?_))
      have lS : l < s.heap.objs.size := Heap.lt_size q1
      have sz : (s.heap.push nw).objs.size = s.heap.objs.size + 1 := Heap.size_push ..
      refine tx_walk (Walks.list (A := A.in1.in1.in1) (by simpa using hh) _ l (by rw [sz]; exact Nat.ne_of_lt (Nat.lt_succ_of_lt lS)) its).toS s.heap.objs.size (by rw [sz]; simp only [List.mem_cons, List.not_mem_nil, or_false, not_or]; exact ⟨Nat.ne_of_lt (Nat.lt_succ_self _), Nat.ne_of_gt lS⟩) xs hx.symm (by rw [hx]; exact few) hv its.size 0 _ (Nat.zero_add _) ⟨⟨_, Heap.get?_push_size _ rfl, rfl, rfl⟩, z4.push _⟩ ?_ ?_
      · exact ⟨nw, #[], 0, _, ⟨Heap.get?_push_of_some _ y1, ⟨rfl, rfl, rfl⟩, rfl, fun e z => by simp at z, .refl _, .nil, by rw [List.take_zero]; decide, by rfl, .nil, by
          show _ ∨ (!w.params.followText "set-order") = true
          cases w.params.followText "set-order" <;> simp⟩⟩
      · rintro ⟨h3, g3, d3, t3, o3⟩ mv S
        cases (show g3 = _ from mv.gens)
        cases (show d3 = _ from mv.drawn)
        cases (show o3 = _ from mv.os)
        refine wpAny_pure (wpAny_pure ⟨rfl, h3, t3, rfl, S, fun b o e => ?_⟩)
        have lb : b < s.heap.objs.size := Heap.lt_size e
        exact mv.heap b o (by rw [sz]; simp only [List.mem_cons, List.not_mem_nil, or_false, not_or]; exact ⟨Nat.ne_of_lt lb, Nat.ne_of_lt (Nat.lt_succ_of_lt lb)⟩) (Heap.get?_push_of_some _ (Heap.get?_push_of_some _ e))
    · match r2, hr2 with
      | .error _, hr2 => exact hr2
      | .ok (.ret _), hr2 =>
        obtain ⟨rfl, h3, t3, rfl, S, kp⟩ := hr2
        (repeat (any_goals (first | assumption | wp_step)))
        exact hQ _ _ S kp
      | .ok .next, hr2 => exact hr2.elim
      | .ok .brk, hr2 => exact hr2.elim
      | .ok .cont, hr2 => exact hr2.elim
  | .ok .next, hr => exact hr.elim
  | .ok .brk, hr => exact hr.elim
  | .ok .cont, hr => exact hr.elim

set_option maxHeartbeats 8000000 in
theorem call_set_tupletx {P : Program} {w : World} {A : Around} {E : Value → Shared → Prop} {s : Shared} {l : Addr} {its : Array Value} {xs : List Str} {Q : Value → Shared → Prop} (hh : A.handled = none) (hl : s.heap.IsTuple l its) (hx : its.size = xs.length) (hv : ∀ (i : Nat) (h : i < xs.length) v, its[i]? = some v → ∃ t, v = .str xs[i] t) (few : xs.length + 1 < scanBound)
    (hQ : ∀ (h' : Heap) (tk : Nat), TxS w h' s.heap.objs.size (setL xs) → (∀ b o, s.heap.get? b = some o → h'.get? b = some o) → Q (.ref s.heap.objs.size) { s with heap := h', toks := tk }) : wpAny (model P w) A (call (.type "set") [.ref l]) Q E s := by
  obtain ⟨mc, mt, mro⟩ := PySem.F.called_set.mro
  have x1 := PySem.F.called_set.made
  have x2 := PySem.F.called_set.sub
  have x3 := PySem.F.called_set.notType
  have x4 := PySem.F.called_set.canCreate
  have x5 := PySem.F.typeCall_set_1 (.ref l)
  refine wpAny_call (codeAny_of_tree (?_ : wpAny _ _ (callAny (.type "set") _) _ _ _))
  refine wpAny_pure ⟨Code.quiet_builtin _ (by decide +kernel), codeAny_builtin PySem.F.entry_type_call ?_⟩
  rw [Around.under_plain (weight_type_call_type "set" [.ref l] []) rfl]
  (repeat (any_goals (first | assumption | wp_step)))
  let nw : Obj := { cls := .type "set", dict := none, data := .set #[] 0 (.fresh 0 0 (!w.params.followText "set-order")) }
  refine codeAny_mono (code_set_led1 (.ref l) (E := E) (Q₁ := fun u s1 => u = .ref s.heap.objs.size ∧ s1 = { s with heap := s.heap.push nw }) ⟨rfl, rfl⟩) fun r s1 hr => ?_
  match r, hr with
  | .error _, hr => exact hr
  | .ok (.ret u), hr =>
    obtain ⟨rfl, rfl⟩ := hr
    have y1 : (s.heap.push nw).get? s.heap.objs.size = some nw := Heap.get?_push_size _ rfl
    have y2 : Shared.TypeIs { s with heap := s.heap.push nw } (.ref s.heap.objs.size) "set" := ⟨nw, y1, rfl⟩
    have y3 := PySem.F.called_set.init.lookup
    have y4 := PySem.F.called_set.init.bind (.ref s.heap.objs.size)
    (repeat (any_goals (first | assumption | wp_step)))
    refine codeAny_mono (codeAny_call_builtin (R := wants (fun r s2 => r = .none ∧ ∃ h' tk, s2 = { s with heap := h', toks := tk } ∧ TxS w h' s.heap.objs.size (setL xs) ∧ ∀ b o, s.heap.get? b = some o → h'.get? b = some o) E) PySem.F.called_set.init.plain PySem.F.entry_set_init (check_set_init_1 y2 ?_)) fun r2 s2 hr2 => ?_
    · obtain ⟨lo, q1, q2, ln, q3⟩ := hl
      obtain ⟨lc, ld, lt, ls⟩ := lo
      simp only at q2 q3
      subst q2 q3
      have q4 : (s.heap.push nw).get? l = some { cls := .type "tuple", dict := ld, data := .seq its ln, slots := ls } := Heap.get?_push_of_some _ q1
      have z1 := PySem.F.sub_tuple_set
      have z2 := PySem.F.sub_tuple_frozenset
      have z3 : (Value.type "tuple" == Value.type "dict") = false := by decide
      have z4 : (s.heap.push nw).IsTuple l its := ⟨_, q4, rfl, ln, rfl⟩
      unfold Builtin.«set.__init__» noKeywords Builtin.Frozenset.updateFrom
      generalize eI : pyIter = pI
      wp_walk
      subst eI
      refine wpAny_pyIter_tuple z4 (wpAny_bind (wpAny_runValue ?_))
      have lS : l < s.heap.objs.size := Heap.lt_size q1
      have sz : (s.heap.push nw).objs.size = s.heap.objs.size + 1 := Heap.size_push ..
      refine tx_walk (Walks.tuple (A := A.in1.in1.in1) (by simpa using hh) _ l (by rw [sz]; exact Nat.ne_of_lt (Nat.lt_succ_of_lt lS)) its).toS s.heap.objs.size (by rw [sz]; simp only [List.mem_cons, List.not_mem_nil, or_false, not_or]; exact ⟨Nat.ne_of_lt (Nat.lt_succ_self _), Nat.ne_of_gt lS⟩) xs hx.symm (by rw [hx]; exact few) hv its.size 0 _ (Nat.zero_add _) ⟨⟨_, Heap.get?_push_size _ rfl, rfl, rfl⟩, z4.push _⟩ ?_ ?_
      · exact ⟨nw, #[], 0, _, ⟨Heap.get?_push_of_some _ y1, ⟨rfl, rfl, rfl⟩, rfl, fun e z => by simp at z, .refl _, .nil, by rw [List.take_zero]; decide, by rfl, .nil, by
          show _ ∨ (!w.params.followText "set-order") = true
          cases w.params.followText "set-order" <;> simp⟩⟩
      · rintro ⟨h3, g3, d3, t3, o3⟩ mv S
        cases (show g3 = _ from mv.gens)
        cases (show d3 = _ from mv.drawn)
        cases (show o3 = _ from mv.os)
        refine wpAny_pure (wpAny_pure ⟨rfl, h3, t3, rfl, S, fun b o e => ?_⟩)
        have lb : b < s.heap.objs.size := Heap.lt_size e
        exact mv.heap b o (by rw [sz]; simp only [List.mem_cons, List.not_mem_nil, or_false, not_or]; exact ⟨Nat.ne_of_lt lb, Nat.ne_of_lt (Nat.lt_succ_of_lt lb)⟩) (Heap.get?_push_of_some _ (Heap.get?_push_of_some _ e))
    · match r2, hr2 with
      | .error _, hr2 => exact hr2
      | .ok (.ret _), hr2 =>
        obtain ⟨rfl, h3, t3, rfl, S, kp⟩ := hr2
        (repeat (any_goals (first | assumption | wp_step)))
        exact hQ _ _ S kp
      | .ok .next, hr2 => exact hr2.elim
      | .ok .brk, hr2 => exact hr2.elim
      | .ok .cont, hr2 => exact hr2.elim
  | .ok .next, hr => exact hr.elim
  | .ok .brk, hr => exact hr.elim
  | .ok .cont, hr => exact hr.elim

end Pz

set_option maxRecDepth 100000
set_option maxHeartbeats 4000000
/-! Pz, part 24: sorted(set(texts)). -/
namespace Pz
open PySem L2 PySem.Spec PyProof.Rows

def leS (x y : Str) : Bool := decide (x.cps.toList ≤ y.cps.toList)
def sortS (xs : List Str) : List Str := xs.mergeSort leS
theorem str_ext {x y : Str} (h : x.cps.toList = y.cps.toList) : x = y := by
  cases x; cases y
  simp only [Str.mk.injEq]
  exact Array.toList_inj.mp h
theorem leS_total (x y : Str) : (leS x y || leS y x) = true := by
  unfold leS
  simp only [Bool.or_eq_true, decide_eq_true_eq]
  exact List.le_total _ _
theorem leS_trans (x y z : Str) (h1 : leS x y = true) (h2 : leS y z = true) : leS x z = true := by
  unfold leS at *
  simp only [decide_eq_true_eq] at *
  exact List.le_trans h1 h2
theorem leS_anti {x y : Str} (h1 : leS x y = true) (h2 : leS y x = true) : x = y := by
  unfold leS at *
  simp only [decide_eq_true_eq] at *
  exact str_ext (List.le_antisymm h1 h2)
theorem sortS_perm {xs ys : List Str} (h : xs.Perm ys) : sortS xs = sortS ys := by
  refine List.Perm.eq_of_pairwise (le := fun a b => leS a b = true) (fun a b _ _ => leS_anti) ?_ ?_ ?_
  · exact List.pairwise_mergeSort leS_trans leS_total _
  · exact List.pairwise_mergeSort leS_trans leS_total _
  · exact ((List.mergeSort_perm ..).trans h).trans (List.mergeSort_perm ..).symm
theorem sortD_strs (xs : List Str) : sortD (xs.map .str) = (sortS xs).map .str := by
  unfold sortD sortS
  refine (List.map_mergeSort fun a _ b _ => ?_).symm
  have e := congrFun (congrFun (PySem.W.dataLe_str (β := Str) fun x => x) a) b
  exact e.symm
section
variable {P : Program} {w : World} {A : Around} {E : Value → Shared → Prop} {s : Shared} {a : Addr} {L : List Str}
theorem each_tx : ∀ {us : List Value}, (∀ u ∈ us, ∃ x t, u = Value.str x t) → PySem.W.EachIs (fun v x => ∃ t, v = Value.str x t) us (us.map txt)
  | [], _ => .nil
  | u :: us, h => by
    obtain ⟨x, t, rfl⟩ := h u List.mem_cons_self
    exact .cons ⟨t, rfl⟩ (each_tx fun v hv => h v (List.mem_cons_of_mem _ hv))
theorem sorted_tx {Q : Value → Shared → Prop} (S : TxS w s.heap a L) (hh : A.handled = none) (hu : A.units + 64 < cLine)
    (hQ : ∀ s' p (out : Array Value) c, (∀ b o, s.heap.get? b = some o → s'.heap.get? b = some o) → s'.gens = s.gens → s'.os = s.os → s.heap.objs.size ≤ p → s'.heap.get? p = some (seqObj "list" out c) →
      PySem.W.EachIs (fun v x => ∃ t, v = Value.str x t) out.toList (sortS L) → Q (.ref p) s') : wpAny (model P w) A (call (.builtin "sorted") [.ref a]) Q E s := by
  obtain ⟨ob, tb, g, m, R⟩ := S
  have hz := R.size
  have few := R.few
  refine Calls.call_function_entry kind_sorted plain_sorted entry_sorted (args_sorted1 _) ?_
  unfold Builtin.«sorted»
  refine wpAny_bind (m := checkCount "sorted" 1 1 _) (wpAny_pure (wpAny_bind (collect_set (A := A.in1) hh ⟨ob, R.at_, R.ex.1, R.dat⟩ R.fit (by omega) R.ris R.ord fun s1 us k1 k2 k3 k4 pm => ?_)))
  have ul : us.length = L.length := by rw [pm.length_eq, List.length_map, Array.length_toList, hz]
  have e1 := each_tx (us := us) fun u hu => by
    obtain ⟨e, h1, h2⟩ := List.mem_map.mp (pm.mem_iff.mp hu)
    obtain ⟨x, t, q, _⟩ := R.all e h1
    exact ⟨x, t, by rw [← h2]; exact q⟩
  have p1 : (us.map txt).Perm L := by
    have z := pm.map txt
    rw [List.map_map] at z
    exact z.trans R.perm
  have hl : us.length ≤ sizeLine := by rw [ul]; exact fits_of_scanBound few
  refine wpAny_bind (wpAny_newList ?_ (by simpa using hl))
  have at1 : (s1.heap.push (seqObj "list" us.toArray 0)).get? s1.heap.objs.size = some (seqObj "list" us.toArray 0) := Heap.get?_push_size _ rfl
  refine wpAny_bind (wpAny_holding (PySem.W.list_sort_data (enc := PyData.str) at1 e1 (e1.mono fun v x ⟨t, q⟩ => ⟨[], by rw [q]; exact .str x t, by simp⟩) (PySem.W.AllAlike.of fun _ _ => rfl) (PySem.W.Sortable.others fun b => ⟨(fun z => by cases z), fun _ z => by cases z⟩) (by rw [List.length_map]; exact hl) (fun b _ => ?_) fun out ol eo => ?_))
  · have : (PyData.str b).depth = 0 := by simp [PyData.depth]
    rw [this]
    show A.units + 1 + 1 + 0 < cLine
    omega
  · obtain ⟨c, hc⟩ := sortedHeap_at (vs := us) (out := out.toArray) at1
    refine wpAny_pure ⟨_, rfl, hQ _ s1.heap.objs.size out.toArray c (fun b u e => ?_) k3 k4 k2 hc ?_⟩
    · have q := k1 b u e
      have lt := Heap.lt_size q
      refine (sortedHeap_old (Nat.ne_of_lt lt) (by rw [size_push']; exact Nat.lt_succ_of_lt lt)).trans ?_
      exact Heap.get?_push_of_some _ q
    · have e3 : (us.map txt).mergeSort (PySem.W.dataLe false PyData.str) = sortS L := by
        rw [← sortS_perm p1]
        unfold sortS
        congr 1
        exact PySem.W.dataLe_str (β := Str) fun x => x
      rw [← e3]
      simpa using eo
end
end Pz

set_option maxRecDepth 100000
set_option maxHeartbeats 4000000
/-! Pz, part 25: zip(a, b, strict=True) of lists and tuples of one length. -/
namespace Pz
open PySem L2 PySem.Spec PyProof.Rows

inductive Src where
  | l
  | t
def Src.It (k : Src) (h : Heap) (it a : Addr) (i : Nat) : Prop := match k with
  | .l => h.IsListIter it a i
  | .t => h.IsTupleIter it a i
def Src.Sq (k : Src) (h : Heap) (a : Addr) (xs : Array Value) : Prop := match k with
  | .l => h.IsList a xs
  | .t => h.IsTuple a xs
section
variable {h h' : Heap} {k : Src} {it a c : Addr} {i : Nat} {xs : Array Value}
theorem Src.It.at (x : k.It h it a i) (q : ∀ o, h.get? it = some o → h'.get? it = some o) : k.It h' it a i := by
  cases k
  · exact Heap.IsListIter.at x q
  · exact Heap.IsTupleIter.at x q
theorem Src.Sq.at (x : k.Sq h a xs) (q : ∀ o, h.get? a = some o → h'.get? a = some o) : k.Sq h' a xs := by
  cases k
  · exact Heap.IsList.at x q
  · exact Heap.IsTuple.at x q
theorem Src.It.obj (x : k.It h it a i) : ∃ o, h.get? it = some o ∧ ∀ v, o.data ≠ .cell v := by
  cases k
  · obtain ⟨o, e, _, d⟩ := x
    exact ⟨o, e, fun v z => by rw [d] at z; cases z⟩
  · obtain ⟨o, e, _, d⟩ := x
    exact ⟨o, e, fun v z => by rw [d] at z; cases z⟩
theorem Src.It.lt (x : k.It h it a i) : it < h.objs.size := let ⟨_, e, _⟩ := x.obj; Heap.lt_size e
theorem Src.Sq.lt (x : k.Sq h a xs) : a < h.objs.size := by
  cases k
  · obtain ⟨_, e, _⟩ := x; exact Heap.lt_size e
  · obtain ⟨_, e, _⟩ := x; exact Heap.lt_size e
end
section
variable {P : Program} {w : World} {A : Around} {E : Value → Shared → Prop} {s : Shared} {k k2 : Src} {it a : Addr} {i : Nat} {xs ys : Array Value}
theorem end_item {x : Value} {Q : Option Value → Shared → Prop} (hi : k.It s.heap it a i) (hs : k.Sq s.heap a xs) (hx : xs[i]? = some x) (hQ : ∀ h', k.It h' it a (i + 1) → Heap.SameBut it s.heap h' → Q (some x) { s with heap := h' }) :
    wpAny (model P w) A (Builtin.SmallTypes.nextOrEnd (.ref it)) Q E s := by
  unfold Builtin.SmallTypes.nextOrEnd
  refine wpAny_bind (wpAny_attempt ?_)
  cases k
  · exact wpAny_nextOf_list_item hi hs hx fun h' q sb => wpAny_pure (hQ h' q sb)
  · exact RZ.nextOf_tuple_item hi hs hx fun h' q sb => wpAny_pure (hQ h' q sb)
theorem end_end {Q : Option Value → Shared → Prop} (hh : A.handled = none) (hi : k.It s.heap it a i) (hs : k.Sq s.heap a xs) (hx : xs[i]? = none) (hQ : ∀ h', Heap.ExtBut it s.heap h' → Q none { s with heap := h' }) :
    wpAny (model P w) A (Builtin.SmallTypes.nextOrEnd (.ref it)) Q E s := by
  unfold Builtin.SmallTypes.nextOrEnd
  refine wpAny_bind (wpAny_attempt ?_)
  have go : ∀ h' e, Heap.ExtBut it s.heap h' → (∃ o, h'.get? e = some o ∧ o.cls = .type "StopIteration") → wpAny (model P w) A (do if ← isInstance (.ref e) (.type "StopIteration") then pure none else throw (.ref e)) Q E { s with heap := h' } := fun h' e sb ⟨o, ho, hc⟩ =>
    wpAny_bind (wpAny_isInstance (T := "StopIteration") (b := true) ⟨o, ho, hc⟩ isSubtype_stop (wpAny_pure (hQ h' sb)))
  cases k
  · exact wpAny_nextOf_list_end hh hi hs hx go
  · exact RZ.nextOf_tuple_end hh hi hs hx go
/-- the zip at z, strict -/
def ZpS (h : Heap) (z ti to : Addr) (f : Value) : Prop := h.get? z = some { cls := .type "zip", dict := none, data := .fields #[f, .bool false, .bool true, .ref ti, .ref to], slots := #[] }
variable {z ti to i1 i2 b : Addr} {u v : Value}
/-- all that a turn looks at -/
structure ZSt (k k2 : Src) (z ti to i1 i2 a b : Addr) (i : Nat) (h : Heap) : Prop where
  z : ZpS h z ti to .none
  ti : IsPair h ti (.ref i1) (.ref i2)
  to : ∃ u v, IsPair h to u v
  i1 : k.It h i1 a i
  i2 : k2.It h i2 b i
theorem zs_item {x y : Value} {Q : Value → Shared → Prop} (D : ZipApart z ti to i1 i2 a b) (S : ZSt k k2 z ti to i1 i2 a b i s.heap) (ha : k.Sq s.heap a xs) (hb : k2.Sq s.heap b ys) (hx : xs[i]? = some x) (hy : ys[i]? = some y)
    (hQ : ∀ h', ZpS h' z ti to (rawInt s.heap.objs.size) → IsPair h' to x y → k.It h' i1 a (i + 1) → k2.It h' i2 b (i + 1) → IsPair h' s.heap.objs.size x y → (∀ c o, c ≠ z → c ≠ to → c ≠ i1 → c ≠ i2 → s.heap.get? c = some o → h'.get? c = some o) → Q (.ref s.heap.objs.size) { s with heap := h' }) :
    wpAny (model P w) A (Builtin.«zip.__next__» ⟨[.ref z], []⟩) (fun fin s' => ∃ v, fin = .done (.ret v) ∧ Q v s') E s := by
  obtain ⟨hz, hti, ⟨u, v, hto⟩, h1, h2⟩ := S
  refine wpAny_bind (m := field (.ref z) 2) (wpAny_field hz rfl (x := .bool true) rfl ?_)
  refine wpAny_bind (m := field (.ref z) 3) (wpAny_field hz rfl (x := .ref ti) rfl ?_)
  refine wpAny_bind (wpAny_seqItems hti rfl ?_)
  refine wpAny_bind (m := Builtin.SmallTypes.ownedTupleIsFree (.ref z)) ?_
  unfold Builtin.SmallTypes.ownedTupleIsFree
  refine wpAny_bind (wpAny_field hz rfl (x := .none) rfl (wpAny_pure ?_))
  rw [if_pos rfl]
  refine wpAny_bind (wpAny_rule (wpAny_bind (wpAny_field hz rfl (x := .ref to) rfl (wpAny_bind (wpAny_setField_rec hz (by simp) fun g1 z1 b1 => ?_)))))
  refine wpAny_bind ?_
  simp only [List.zipIdx_cons, List.zipIdx_nil, List.forIn_cons, List.forIn_nil]
  refine wpAny_bind (wpAny_bind (wpAny_onRaise ?_))
  show wpAny _ _ (Builtin.SmallTypes.nextOrEnd (.ref i1)) _ _ _
  refine end_item (h1.at fun o e => b1.extBut _ _ D.i1z e) (ha.at fun o e => b1.extBut _ _ D.l1z e) hx fun g2 q2 b2 => ?_
  have t2 : IsPair g2 to u v := b2.extBut _ _ D.TOi1 (b1.extBut _ _ D.TOz hto)
  refine wpAny_bind (wpAny_seqItems t2 rfl (wpAny_bind (wpAny_updateSeq_pair t2 fun g3 t3 b3 => wpAny_bind (wpAny_letGo (wpAny_pure ?_)))))
  have t3 : IsPair g3 to x v := t3
  refine wpAny_bind (wpAny_bind (wpAny_onRaise ?_))
  show wpAny _ _ (Builtin.SmallTypes.nextOrEnd (.ref i2)) _ _ _
  refine end_item (k := k2) (h2.at fun o e => b3.extBut _ _ D.TOi2.symm (b2.extBut _ _ D.i12.symm (b1.extBut _ _ D.i2z e))) (hb.at fun o e => b3.extBut _ _ D.l2TO (b2.extBut _ _ D.l2i1 (b1.extBut _ _ D.l2z e))) hy fun g4 q4 b4 => ?_
  have t4 : IsPair g4 to x v := b4.extBut _ _ D.TOi2 t3
  refine wpAny_bind (wpAny_seqItems t4 rfl (wpAny_bind (wpAny_updateSeq_pair t4 fun g5 t5 b5 => wpAny_bind (wpAny_letGo (wpAny_pure (wpAny_pure ?_))))))
  have t5 : IsPair g5 to x y := t5
  refine wpAny_bind (wpAny_seqItems t5 rfl (wpAny_bind (wpAny_newTuple ?_)))
  have hsz : g5.objs.size = s.heap.objs.size := by rw [b5.1, b4.1, b3.1, b2.1, b1.1]
  have z5 : ZpS g5 z ti to .ellipsis := b5.extBut _ _ D.TOz.symm (b4.extBut _ _ D.i2z.symm (b3.extBut _ _ D.TOz.symm (b2.extBut _ _ D.i1z.symm z1)))
  have k5 : ∀ c o, c ≠ z → c ≠ to → c ≠ i1 → c ≠ i2 → s.heap.get? c = some o → g5.get? c = some o := fun c o c1 c2 c3 c4 e => b5.extBut _ _ c2 (b4.extBut _ _ c4 (b3.extBut _ _ c2 (b2.extBut _ _ c3 (b1.extBut _ _ c1 e))))
  have p1 : k.It g5 i1 a (i + 1) := q2.at fun o e => b5.extBut _ _ D.TOi1.symm (b4.extBut _ _ D.i12 (b3.extBut _ _ D.TOi1.symm e))
  have p2 : k2.It g5 i2 b (i + 1) := q4.at fun o e => b5.extBut _ _ D.TOi2.symm e
  have lz : z < g5.objs.size := Heap.lt_size z5
  refine wpAny_bind (m := Builtin.SmallTypes.ownedTupleHandOut (.ref z) (.ref g5.objs.size)) ?_
  unfold Builtin.SmallTypes.ownedTupleHandOut
  have z6 : ZpS (g5.push { cls := .type "tuple", data := .seq #[x, y] }) z ti to .ellipsis := Heap.get?_push_of_some _ z5
  refine wpAny_bind (wpAny_setField_rec z6 (by simp) fun g7 z7 b7 => wpAny_setField_rec z7 (by simp) fun g8 z8 b8 => ?_)
  have up : ∀ c o, c ≠ z → g5.get? c = some o → g8.get? c = some o := fun c o n e => b8.extBut _ _ n (b7.extBut _ _ n (Heap.get?_push_of_some _ e))
  have z9 : ZpS g8 z ti to (rawInt g5.objs.size) := z8
  have t9 : IsPair g8 g5.objs.size x y := b8.extBut _ _ (Nat.ne_of_gt lz) (b7.extBut _ _ (Nat.ne_of_gt lz) (Heap.get?_push_size _ rfl))
  refine wpAny_pure ⟨_, rfl, ?_⟩
  show Q (.ref g5.objs.size) _
  rw [hsz] at z9 t9 ⊢
  exact hQ g8 z9 (up _ _ D.TOz t5) (p1.at fun o e => up _ o D.i1z e) (p2.at fun o e => up _ o D.i2z e) t9 fun c o c1 c2 c3 c4 e => up c o c1 (k5 c o c1 c2 c3 c4 e)
theorem zs_end {Q : Fin → Shared → Prop} (hh : A.handled = none) (D : ZipApart z ti to i1 i2 a b) (S : ZSt k k2 z ti to i1 i2 a b i s.heap) (ha : k.Sq s.heap a xs) (hb : k2.Sq s.heap b ys) (hx : xs[i]? = none) (hy : ys[i]? = none)
    (hE : ∀ h' e, (∀ c o, c ≠ z → c ≠ to → c ≠ i1 → c ≠ i2 → s.heap.get? c = some o → h'.get? c = some o) → (∃ o, h'.get? e = some o ∧ o.cls = .type "StopIteration") → E (.ref e) { s with heap := h' }) :
    wpAny (model P w) A (Builtin.«zip.__next__» ⟨[.ref z], []⟩) Q E s := by
  obtain ⟨hz, hti, ⟨u, v, hto⟩, h1, h2⟩ := S
  refine wpAny_bind (m := field (.ref z) 2) (wpAny_field hz rfl (x := .bool true) rfl ?_)
  refine wpAny_bind (m := field (.ref z) 3) (wpAny_field hz rfl (x := .ref ti) rfl ?_)
  refine wpAny_bind (wpAny_seqItems hti rfl ?_)
  refine wpAny_bind (m := Builtin.SmallTypes.ownedTupleIsFree (.ref z)) ?_
  unfold Builtin.SmallTypes.ownedTupleIsFree
  refine wpAny_bind (wpAny_field hz rfl (x := .none) rfl (wpAny_pure ?_))
  rw [if_pos rfl]
  refine wpAny_bind (wpAny_rule (wpAny_bind (wpAny_field hz rfl (x := .ref to) rfl (wpAny_bind (wpAny_setField_rec hz (by simp) fun g1 z1 b1 => ?_)))))
  have z1 : ZpS g1 z ti to .ellipsis := z1
  refine wpAny_bind ?_
  simp only [List.zipIdx_cons, List.zipIdx_nil, List.forIn_cons, List.forIn_nil]
  refine wpAny_bind (wpAny_bind (wpAny_onRaise ?_))
  show wpAny _ _ (Builtin.SmallTypes.nextOrEnd (.ref i1)) _ _ _
  refine end_end hh (h1.at fun o e => b1.extBut _ _ D.i1z e) (ha.at fun o e => b1.extBut _ _ D.l1z e) hx fun g2 b2 => ?_
  have z2 : ZpS g2 z ti to .ellipsis := b2 _ _ D.i1z.symm z1
  refine wpAny_bind (wpAny_setField_rec z2 (by simp) fun g3 z3 b3 => wpAny_bind ?_)
  have i3 : k2.It g3 i2 b i := h2.at fun o e => b3.extBut _ _ D.i2z (b2 _ _ D.i12.symm (b1.extBut _ _ D.i2z e))
  have s3 : k2.Sq g3 b ys := hb.at fun o e => b3.extBut _ _ D.l2z (b2 _ _ D.l2i1 (b1.extBut _ _ D.l2z e))
  have kp : ∀ c o, c ≠ z → c ≠ to → c ≠ i1 → c ≠ i2 → s.heap.get? c = some o → g3.get? c = some o := fun c o c1 c2 c3 c4 e => b3.extBut _ _ c1 (b2 _ _ c3 (b1.extBut _ _ c1 e))
  wp_delta
  rw [if_neg (by decide)]
  simp only [List.drop_succ_cons, List.drop_zero, List.zipIdx_cons, List.zipIdx_nil, List.forIn_cons, List.forIn_nil]
  refine wpAny_bind (wpAny_bind (wpAny_bind (end_end (k := k2) hh i3 s3 hy fun g4 b4 => ?_)))
  rw [if_neg (by decide)]
  refine wpAny_pure (wpAny_pure (wpAny_bind (wpAny_rule ?_)))
  unfold Builtin.SmallTypes.stopIteration
  refine wpAny_bind ?_
  simp only [newExc, newTuple]
  refine wpAny_bind (wpAny_newObj_type (wpAny_bind (m := firstArgMember _ _) (wpAny_of_eq (a := Value.none) (by simp only [firstArgMember]; rfl) (wpAny_newObj_type ?_ (by size_fits)))) (by size_fits))
  simp only [raiseNew]
  refine wpAny_bind (wpAny_handled ?_)
  rw [hh]
  refine wpAny_bind (wpAny_pure (wpAny_throw ?_))
  refine hE _ _ (fun c o c1 c2 c3 c4 e => ?_) ⟨_, Heap.get?_push_size _ rfl, rfl⟩
  exact Heap.get?_push_of_some _ (Heap.get?_push_of_some _ (b4 _ _ c4 (kp c o c1 c2 c3 c4 e)))

theorem nx_item {x y : Value} {Q : Option Value → Shared → Prop} (D : ZipApart z ti to i1 i2 a b) (S : ZSt k k2 z ti to i1 i2 a b i s.heap) (ha : k.Sq s.heap a xs) (hb : k2.Sq s.heap b ys) (hx : xs[i]? = some x) (hy : ys[i]? = some y)
    (hQ : ∀ h', ZpS h' z ti to (rawInt s.heap.objs.size) → IsPair h' to x y → k.It h' i1 a (i + 1) → k2.It h' i2 b (i + 1) → IsPair h' s.heap.objs.size x y → (∀ c o, c ≠ z → c ≠ to → c ≠ i1 → c ≠ i2 → s.heap.get? c = some o → h'.get? c = some o) → Q (some (.ref s.heap.objs.size)) { s with heap := h' }) :
    wpAny (model P w) A (pyNext (.ref z)) Q E s := by
  have ht : s.TypeIs (.ref z) "zip" := ⟨_, S.z, rfl⟩
  unfold pyNext
  refine wpAny_bind (wpAny_attempt (wpAny_callSpecial?_slot (name := Str.ofString "__next__") ht F.slot_zip_next (wpAny_call_entry F.slot_zip_next ht F.entry_zip_next ?_ (F.args_zip_next_1 _))))
  exact zs_item D S ha hb hx hy fun h' q1 q2 q3 q4 q5 q6 => wpAny_pure (hQ h' q1 q2 q3 q4 q5 q6)
theorem nx_end {Q : Option Value → Shared → Prop} (hh : A.handled = none) (D : ZipApart z ti to i1 i2 a b) (S : ZSt k k2 z ti to i1 i2 a b i s.heap) (ha : k.Sq s.heap a xs) (hb : k2.Sq s.heap b ys) (hx : xs[i]? = none) (hy : ys[i]? = none)
    (hQ : ∀ h', (∀ c o, c ≠ z → c ≠ to → c ≠ i1 → c ≠ i2 → s.heap.get? c = some o → h'.get? c = some o) → Q none { s with heap := h' }) : wpAny (model P w) A (pyNext (.ref z)) Q E s := by
  have ht : s.TypeIs (.ref z) "zip" := ⟨_, S.z, rfl⟩
  unfold pyNext
  refine wpAny_bind (wpAny_attempt (wpAny_callSpecial?_slot (name := Str.ofString "__next__") ht F.slot_zip_next (wpAny_call_entry F.slot_zip_next ht F.entry_zip_next ?_ (F.args_zip_next_1 _))))
  refine zs_end (A := A.in1) hh D S ha hb hx hy fun h' e kp ⟨o, ho, hc⟩ => ?_
  exact wpAny_bind (wpAny_isInstance (T := "StopIteration") (b := true) ⟨o, ho, hc⟩ isSubtype_stop (wpAny_pure (hQ h' kp)))
theorem go_zs {elts : List Expr} {x1} {pos : Pos} {T : Addr} {Q : Unit → Shared → Prop} (hz : ZpS s.heap z ti to (rawInt T)) (hQ : ∀ h', ZpS h' z ti to .none → Heap.SameBut z s.heap h' → Q () { s with heap := h' }) :
    wpAny (model P w) A (letOwnedTupleGo (.Tuple elts x1 pos) (.ref z) (.ref T)) Q E s := by
  unfold letOwnedTupleGo
  refine wpAny_bind (wpAny_load hz ?_)
  refine wp_if_pos (c := (["enumerate", "zip", "dict_itemiterator", "dict_reverseitemiterator", "odict_iterator", "itertools.zip_longest", "itertools.pairwise"].contains "zip" && (#[rawInt T, .bool false, .bool true, .ref ti, .ref to] : Array Value)[0]? == some (rawInt T)) = true) (by simp) ?_
  exact wpAny_bind (wpAny_rule (wpAny_setField_rec hz (by simp) fun h' q sb => hQ h' q sb))
end

/-! ### the walk -/
def SqV (k : Src) (K : PySem.W.Frag) (H : Hp) (a : Addr) (xs : List V) : Prop := match k with
  | .l => SqL K H a xs
  | .t => SqT K H a xs
theorem SqV.sq {X : Cx} {pins : List (Addr × Obj)} {σ : L2.St} {H : Hp} {s : Shared} {k : Src} {a : Addr} {xs : List V} (I : Inv X pins σ H s) (h : SqV k X.K H a xs) : ∃ its : List Value, Vals xs its ∧ k.Sq s.heap a its.toArray := by
  cases k
  · obtain ⟨its, rv, p, _⟩ := I.list h
    exact ⟨its, rv, p.isList⟩
  · obtain ⟨its, rv, p, _⟩ := I.tuple h
    exact ⟨its, rv, p⟩
theorem SqV.inj {X : Cx} {pins : List (Addr × Obj)} {σ : L2.St} {H : Hp} {s : Shared} {k : Src} {a : Addr} {xs ys : List V} (I : Inv X pins σ H s) (h : SqV k X.K H a xs) (h' : SqV k X.K H a ys) : xs = ys := by
  cases k
  · exact I.list_inj h h'
  · exact I.tuple_inj h h'
def ItS (k k2 : Src) (K : PySem.W.Frag) (a b : Addr) : It :=
  ⟨fun i H => ∃ (xs ys : List V) (x y : V), SqV k K H a xs ∧ SqV k2 K H b ys ∧ xs[i]? = some x ∧ ys[i]? = some y,
   fun i H v H' => ∃ T x y, v = .ref T ∧ H T = none ∧ H' = upd H T (.tup [x, y]) ∧ (∀ xs, SqV k K H a xs → xs[i]? = some x) ∧ ∀ ys, SqV k2 K H b ys → ys[i]? = some y,
   fun i H => ∃ xs ys : List V, SqV k K H a xs ∧ SqV k2 K H b ys ∧ xs.length ≤ i ∧ ys.length ≤ i⟩
theorem turn_zs {P : Program} {w : World} {K : PySem.W.Frag} {k k2 : Src} {elts : List Expr} {kk : Nat} {tpos : Pos} {a b z ti to i1 i2 : Addr} (D : ZipApart z ti to i1 i2 a b) :
    Turn P w K (.Tuple elts kk tpos) (ItS k k2 K a b) [z, ti, to, i1, i2] z (fun i h => ZSt k k2 z ti to i1 i2 a b i h) where
  mem := .head _
  obj := fun i h S c hc => by
    obtain ⟨hz, hti, ⟨u, v, hto⟩, h1, h2⟩ := S
    simp only [List.mem_cons, List.not_mem_nil, or_false] at hc
    rcases hc with rfl | rfl | rfl | rfl | rfl
    · exact ⟨_, hz, fun v q => nomatch q⟩
    · exact ⟨_, hti, fun v q => nomatch q⟩
    · exact ⟨_, hto, fun v q => nomatch q⟩
    · exact h1.obj
    · exact h2.obj
  keep := fun i h h' S q => by
    obtain ⟨hz, hti, ⟨u, v, hto⟩, h1, h2⟩ := S
    exact ⟨q z (by simp) _ hz, q ti (by simp) _ hti, ⟨u, v, q to (by simp) _ hto⟩, h1.at fun o e => q i1 (by simp) o e, h2.at fun o e => q i2 (by simp) o e⟩
  item := by
    intro X hP hw hK hc i pins s σ H E I hf S hg
    subst hP hw hK
    obtain ⟨xs, ys, x, y, qx, qy, hx, hy⟩ := hg
    obtain ⟨its, rv, p⟩ := qx.sq I
    obtain ⟨jts, rw', p'⟩ := qy.sq I
    obtain ⟨u, hu, ru⟩ := rv.get hx
    obtain ⟨u', hu', ru'⟩ := rw'.get hy
    have lz : z < s.heap.objs.size := Heap.lt_size S.z
    refine nx_item D S p p' (x := u) (y := u') (by simpa using hu) (by simpa using hu') fun h' z' to' j1 j2 hT kp => ⟨_, rfl, go_zs (s := { s with heap := h' }) z' fun h2 z2 sb => ?_⟩
    have hT2 : h2.get? s.heap.objs.size = some { cls := .type "tuple", data := .seq #[u, u'] } := (sb.2 _ (Nat.ne_of_gt lz)).trans hT
    have hnew : ObjOk X.prog X.w (upd H s.heap.objs.size (.tup [x, y])) h2 s.heap.objs.size (.tup [x, y]) := ⟨by show 2 ≤ sizeLine; decide, [u, u'], .cons ru (.cons ru' .nil), _, hT2, rfl, _, rfl⟩
    have all : ∀ c o, c ∉ [z, ti, to, i1, i2] → s.heap.get? c = some o → h2.get? c = some o := fun c o n e => by
      simp only [List.mem_cons, List.not_mem_nil, or_false, not_or] at n
      exact (sb.2 c n.1).trans (kp c o n.1 n.2.2.1 n.2.2.2.1 n.2.2.2.2 e)
    refine ⟨.ref s.heap.objs.size, _, I.turnedNew (t' := s.toks) all hf (Nat.le_refl _) hnew, rfl, ⟨_, x, y, rfl, I.hok.fresh (Nat.le_refl _), rfl, fun l hl => by rw [SqV.inj I hl qx]; exact hx, fun l hl => by rw [SqV.inj I hl qy]; exact hy⟩, ⟨z2, ?_, ⟨u, u', ?_⟩, ?_, ?_⟩, fun c hc => ?_⟩
    · exact (sb.2 _ D.TIz).trans (kp _ _ D.TIz D.TITO D.TIi1 D.TIi2 S.ti)
    · exact (sb.2 _ D.TOz).trans to'
    · exact j1.at fun o q => (sb.2 _ D.i1z).trans q
    · exact j2.at fun o q => (sb.2 _ D.i2z).trans q
    · have lt : c < s.heap.objs.size := by
        obtain ⟨hz, hti, ⟨u, v, hto⟩, h1, h2⟩ := S
        simp only [List.mem_cons, List.not_mem_nil, or_false] at hc
        rcases hc with rfl | rfl | rfl | rfl | rfl
        · exact lz
        · exact Heap.lt_size hti
        · exact Heap.lt_size hto
        · exact h1.lt
        · exact h2.lt
      rw [upd_ne (Nat.ne_of_lt lt)]
      exact (hf c hc).1
  done := by
    intro X hP hw hK hc i pins s σ H E I hf S hg
    subst hP hw hK
    obtain ⟨xs, ys, qx, qy, l1, l2⟩ := hg
    obtain ⟨its, rv, p⟩ := qx.sq I
    obtain ⟨jts, rw', p'⟩ := qy.sq I
    have e1 := rv.length
    have e2 := rw'.length
    refine nx_end (I.ok.hd hc) D S p p' (by simp; omega) (by simp; omega) fun h' kp => ⟨rfl, I.turnedL (t' := s.toks) (ch := [z, ti, to, i1, i2]) (fun c o n e => ?_) hf⟩
    simp only [List.mem_cons, List.not_mem_nil, or_false, not_or] at n
    exact kp c o n.1 n.2.2.1 n.2.2.2.1 n.2.2.2.2 e
  self := fun A i s Q E S h => by
    have ht : s.TypeIs (.ref z) "zip" := ⟨_, S.z, rfl⟩
    refine wpAny_pyIter_slot ht F.slot_zip_iter (wpAny_call_entry F.slot_zip_iter ht F.entry_zip_iter ?_ (F.args_zip_iter_1 _))
    show wpAny _ _ (ret (.ref z)) _ _ s
    exact wpAny_pure ⟨_, rfl, "zip", _, ht, F.slot_zip_next.lookup, h⟩

/-! ### made -/
def Src.ito (k : Src) (a : Addr) : Obj := match k with
  | .l => { cls := .type "list_iterator", data := .fields #[.ref a, .int 0 0] }
  | .t => { cls := .type "tuple_iterator", data := .fields #[.ref a, .int 0 0] }
theorem iter_src {P : Program} {w : World} {A : Around} {E : Value → Shared → Prop} {s : Shared} {k : Src} {a : Addr} {xs : Array Value} {Q : Value → Shared → Prop} (h : k.Sq s.heap a xs) (q : Q (.ref s.heap.objs.size) { s with heap := s.heap.push (k.ito a) }) : wpAny (model P w) A (pyIter (.ref a)) Q E s := by
  cases k
  · exact wpAny_pyIter_list h q
  · exact wpAny_pyIter_tuple h q
theorem tc_zs (a b : Value) : checkTypeCall "zip" ⟨[a, b], [(Str.ofString "strict", .bool true)]⟩ = pure () := by kernel_rfl
theorem nc_zs (a b : Value) : checkBuiltinCall "zip.__new__" ⟨[.type "zip", a, b], [(Str.ofString "strict", .bool true)]⟩ = pure () := by kernel_rfl
theorem oi_zs (o a b : Value) : argsOk "object.__init__" ⟨[o, a, b], [(Str.ofString "strict", .bool true)]⟩ := by unfold argsOk; kernel_rfl
def zsH1 (k : Src) (h : Heap) (a : Addr) : Heap := h.push (k.ito a)
def zsH2 (k k2 : Src) (h : Heap) (a b : Addr) : Heap := (zsH1 k h a).push (k2.ito b)
def zsH3 (k k2 : Src) (h : Heap) (a b : Addr) : Heap := (zsH2 k k2 h a b).push { cls := .type "tuple", data := .seq #[.ref h.objs.size, .ref (zsH1 k h a).objs.size] }
def zsH4 (k k2 : Src) (h : Heap) (a b : Addr) : Heap := (zsH3 k k2 h a b).push { cls := .type "tuple", data := .seq #[.none, .none] }
def zsH5 (k k2 : Src) (h : Heap) (a b : Addr) : Heap := (zsH4 k k2 h a b).push { cls := .type "zip", data := .fields #[.none, .bool false, .bool true, .ref (zsH2 k k2 h a b).objs.size, .ref (zsH3 k k2 h a b).objs.size] }
theorem meets_zs (k k2 : Src) (a b : Addr) (xs ys : Array Value) : Meets (Builtin.«zip.__new__» ⟨[.type "zip", .ref a, .ref b], [(Str.ofString "strict", .bool true)]⟩) (fun _ R s => (k.Sq s.heap a xs ∧ k2.Sq s.heap b ys) ∧ R (.ok (.ret (.ref (zsH4 k k2 s.heap a b).objs.size))) { s with heap := zsH5 k k2 s.heap a b }) :=
  .of_wp fun prog w A R s h => by
    obtain ⟨hp, g, d, tk, os⟩ := s
    obtain ⟨⟨ha, hb⟩, h⟩ := h
    have hsub := sub_zip
    have e1 : (Str.ofString "strict" != ("strict" : Str)) = false := by decide +kernel
    have q1 : ∀ {A' : Around} {E : Value → Shared → Prop} {Q : Value → Shared → Prop}, Q (.ref hp.objs.size) ⟨zsH1 k hp a, g, d, tk, os⟩ → wpAny (model prog w) A' (pyIter (.ref a)) Q E ⟨hp, g, d, tk, os⟩ := fun q => iter_src (s := ⟨hp, g, d, tk, os⟩) ha q
    have hb1 : k2.Sq (zsH1 k hp a) b ys := hb.at fun o e => Heap.get?_push_of_some _ e
    have q2 : ∀ {A' : Around} {E : Value → Shared → Prop} {Q : Value → Shared → Prop}, Q (.ref (zsH1 k hp a).objs.size) ⟨zsH2 k k2 hp a b, g, d, tk, os⟩ → wpAny (model prog w) A' (pyIter (.ref b)) Q E ⟨zsH1 k hp a, g, d, tk, os⟩ := fun q => iter_src (s := ⟨zsH1 k hp a, g, d, tk, os⟩) hb1 q
    wp_walk using q1, q2
    exact ⟨_, rfl, h⟩
end Pz

set_option maxRecDepth 100000
set_option maxHeartbeats 4000000
/-! Pz, part 26: strict zip as a walk and as a list; sorted(set(..)). -/
namespace Pz
open PySem L2 PySem.Spec PyProof.Rows
theorem call_zs {P : Program} {w : World} {A : Around} {E : Value → Shared → Prop} {s : Shared} {k k2 : Src} {a b : Addr} {xs ys : Array Value} {Q : Value → Shared → Prop} (ha : k.Sq s.heap a xs) (hb : k2.Sq s.heap b ys)
    (h : ∀ h', ZSt k k2 (s.heap.objs.size + 4) (s.heap.objs.size + 2) (s.heap.objs.size + 3) s.heap.objs.size (s.heap.objs.size + 1) a b 0 h' → (∀ c o, s.heap.get? c = some o → h'.get? c = some o) → Q (.ref (s.heap.objs.size + 4)) { s with heap := h' }) :
    wpAny (model P w) A (call (.type "zip") [.ref a, .ref b] [(Str.ofString "strict", .bool true)]) Q E s := by
  refine PySem.callType_newKw F.called_zip (by decide) (tc_zs _ _) (nc_zs _ _) (fun _ => oi_zs _ _ _) F.entry_zip_new (meets_zs k k2 a b xs ys) ⟨⟨ha, hb⟩, ?_⟩
  have n1 : (zsH1 k s.heap a).objs.size = s.heap.objs.size + 1 := Heap.size_push ..
  have n2 : (zsH2 k k2 s.heap a b).objs.size = s.heap.objs.size + 2 := (Heap.size_push ..).trans (by rw [n1])
  have n3 : (zsH3 k k2 s.heap a b).objs.size = s.heap.objs.size + 3 := (Heap.size_push ..).trans (by rw [n2])
  have n4 : (zsH4 k k2 s.heap a b).objs.size = s.heap.objs.size + 4 := (Heap.size_push ..).trans (by rw [n3])
  have u5 : ∀ c o, (zsH4 k k2 s.heap a b).get? c = some o → (zsH5 k k2 s.heap a b).get? c = some o := fun c o e => Heap.get?_push_of_some _ e
  have u4 : ∀ c o, (zsH3 k k2 s.heap a b).get? c = some o → (zsH5 k k2 s.heap a b).get? c = some o := fun c o e => u5 c o (Heap.get?_push_of_some _ e)
  have u3 : ∀ c o, (zsH2 k k2 s.heap a b).get? c = some o → (zsH5 k k2 s.heap a b).get? c = some o := fun c o e => u4 c o (Heap.get?_push_of_some _ e)
  have u2 : ∀ c o, (zsH1 k s.heap a).get? c = some o → (zsH5 k k2 s.heap a b).get? c = some o := fun c o e => u3 c o (Heap.get?_push_of_some _ e)
  have g5 : (zsH5 k k2 s.heap a b).get? (zsH4 k k2 s.heap a b).objs.size = some { cls := .type "zip", data := .fields #[.none, .bool false, .bool true, .ref (zsH2 k k2 s.heap a b).objs.size, .ref (zsH3 k k2 s.heap a b).objs.size] } := Heap.get?_push_size _ rfl
  have g4 : (zsH5 k k2 s.heap a b).get? (zsH3 k k2 s.heap a b).objs.size = some { cls := .type "tuple", data := .seq #[.none, .none] } := u5 _ _ (Heap.get?_push_size _ rfl)
  have g3 : (zsH5 k k2 s.heap a b).get? (zsH2 k k2 s.heap a b).objs.size = some { cls := .type "tuple", data := .seq #[.ref s.heap.objs.size, .ref (zsH1 k s.heap a).objs.size] } := u4 _ _ (Heap.get?_push_size _ rfl)
  have g2 : k2.It (zsH5 k k2 s.heap a b) (zsH1 k s.heap a).objs.size b 0 := by
    have e : (zsH5 k k2 s.heap a b).get? (zsH1 k s.heap a).objs.size = some (k2.ito b) := u3 _ _ (Heap.get?_push_size _ (by cases k2 <;> rfl))
    cases k2 <;> exact ⟨_, e, rfl, rfl⟩
  have g1 : k.It (zsH5 k k2 s.heap a b) s.heap.objs.size a 0 := by
    have e : (zsH5 k k2 s.heap a b).get? s.heap.objs.size = some (k.ito a) := u2 _ _ (Heap.get?_push_size _ (by cases k <;> rfl))
    cases k <;> exact ⟨_, e, rfl, rfl⟩
  show _ ∧ _
  rw [n1] at g3 g2
  rw [n2, n3, n4] at g5
  rw [n2] at g3
  rw [n3] at g4
  rw [n4]
  exact ⟨⟨_, g5, rfl⟩, h _ ⟨g5, g3, ⟨_, _, g4⟩, g1, g2⟩ fun c o e => u2 c o (Heap.get?_push_of_some _ e)⟩
theorem callWith_tkw {M : Model} {A : Around} {E : Value → Shared → Prop} {s : Shared} {env : Env} {pos : Pos} {T : String} {e : Expr} {rest : List Expr} {kws : List Keyword} {Q : Value → Shared → Prop}
    (h : wpAny M A (spliced (backTo pos (starEach (e :: rest) env))) (fun vs s1 => wpAny M A (evalAll ((backToKw pos (keywordEach kws env)).map (·.2))) (fun kvs s2 => wpAny M A (call (.type T) vs (((backToKw pos (keywordEach kws env)).filterMap (·.1)).zip kvs)) Q E s2) E s1) E s)
    (he : backTo pos (starEach (e :: rest) env) = (false, eval e env) :: backTo pos (starEach rest env)) (hp : (backTo pos (starEach (e :: rest) env)).any (·.1) = false) (ha : (backToKw pos (keywordEach kws env)).all (·.1.isSome) = true) (hk : (backToKw pos (keywordEach kws env)).any (·.1.isNone) = false) :
    wpAny M A (callWith pos (.type T) [] (backTo pos (starEach (e :: rest) env)) (backToKw pos (keywordEach kws env))) Q E s := by
  have h2 : wpAny M A (evalArgs (.type T) true (backTo pos (starEach (e :: rest) env)) (backToKw pos (keywordEach kws env))) (fun a s1 => wpAny M A (call (.type T) ([] ++ a.pos) a.kw) Q E s1) E s := by
    rw [he] at h ⊢
    exact evalArgs_kwB ha h
  unfold callWith
  refine wpAny_bind (wpAny_holding (wpAny_mono h2 (fun a s1 h1 => wpAny_bind (wpAny_standAt ?_)) fun _ _ x => x))
  simp only [hp, hk, Bool.or_false]
  exact wpAny_bind (wpAny_pure (wpAny_bind (wpAny_mono h1 (fun r s2 hr => wpAny_bind (wpAny_holding (wpAny_point (wpAny_pure hr)))) fun _ _ x => x)))
/-- zip(e, e2, strict=True), walked -/
def iZs (K : PySem.W.Frag) (ta : TA) : TI := fun σ H R => ta σ H fun vs H1 => ∃ (k k2 : Src) (a b : Addr) (xs ys : List V), vs = [.ref a, .ref b] ∧ SqV k K H1 a xs ∧ SqV k2 K H1 b ys ∧ R (ItS k k2 K a b) H1
theorem pi_zs {X : Cx} {e e2 : Expr} {ta : TA} {p pos tpos cp kp : Pos} {elts : List Expr} {kk j : Nat} (hg : Gl X "zip") (hm : X.mg "zip" = none) (ha : PA X [e, e2] ta) (hs : starEach [e, e2] X.env = (false, eval e X.env) :: starEach [e2] X.env) (hs2 : starEach [e2] X.env = (false, eval e2 X.env) :: starEach [] X.env) :
    PI X (.Tuple elts kk tpos) (.Call (.Name "zip" p) [e, e2] [⟨some "strict", .Constant (.bool true) j cp, kp⟩] pos) (iZs X.K ta) := by
  refine ⟨fun pins s σ H R I h => ?_⟩
  refine wpAny_Call_Name_kw (ld_blt I hg hm PyProof.Rows.boot_zip (callWith_tkw (thn (ha.run pos pins s σ H _ I h) fun us s1 ⟨vs, H1, I1, r1, q1⟩ => ?_) (by rw [hs] <;> rfl) (by rw [hs, hs2] <;> rfl) rfl rfl))
  obtain ⟨k, k2, a, b, xs, ys, ex, qx, qy, q⟩ := q1
  subst ex
  have hk : PK X [⟨some "strict", .Constant (.bool true) j cp, kp⟩] (tCons (tC (.bl true)) tNil) := pk_cons pe_bl pk_nil
  refine thn (hk.run pos pins s1 σ H1 (fun zs H2 => zs = [.bl true] ∧ H2 = H1) I1 ⟨rfl, rfl⟩) fun kvs s2 ⟨zs, H2, I2, r2, ez, eh⟩ => ?_
  subst ez eh
  cases r1 with
  | cons r rr =>
  cases rr with
  | cons r' rr =>
  cases rr
  cases r
  cases r'
  cases r2 with
  | cons r2 rr =>
  cases rr
  cases r2
  obtain ⟨its, rv, p1⟩ := qx.sq I2
  obtain ⟨jts, rw', p2⟩ := qy.sq I2
  refine call_zs p1 p2 fun h' S kp => ?_
  have ht : Shared.TypeIs { s2 with heap := h' } (.ref (s2.heap.objs.size + 4)) "zip" := ⟨_, S.z, rfl⟩
  refine wpAny_pyIter_slot ht F.slot_zip_iter (wpAny_call_entry F.slot_zip_iter ht F.entry_zip_iter (?_ : wpAny _ _ (ret (.ref (s2.heap.objs.size + 4))) _ _ _) (F.args_zip_iter_1 _))
  refine wpAny_pure ⟨_, rfl, "zip", _, ht, F.slot_zip_next.lookup, ?_⟩
  have I3 : Inv X pins σ H2 { s2 with heap := h' } := I2.kept (t' := s2.toks) kp
  refine ⟨s2.heap.objs.size + 4, _, _, _, H2, rfl, I3, turn_zs (k := k) (k2 := k2) (PySem.W.ktu_apart s2.heap.objs.size a b p1.lt p2.lt), S, fun c hc => ?_, q⟩
  have le : s2.heap.objs.size ≤ c := by
    simp only [List.mem_cons, List.not_mem_nil, or_false] at hc
    rcases hc with rfl | rfl | rfl | rfl | rfl
    · exact Nat.le_add_right _ _
    · exact Nat.le_add_right _ _
    · exact Nat.le_add_right _ _
    · exact Nat.le_refl _
    · exact Nat.le_add_right _ _
  exact I2.fpOk le (I2.hok.fresh le)

/-! ### in data -/
def seqOf : D → Option (List D)
  | .lst xs => some xs
  | .tup xs => some xs
  | _ => none
def zipL (xs ys : List D) : List D := xs.zipWith (fun x y => D.tup [x, y]) ys
def wiZs (t : WA) : WI := fun ρ K => t ρ fun os ρ' => ∃ x y xs ys, looks ρ' os = some [x, y] ∧ seqOf x = some xs ∧ seqOf y = some ys ∧ xs.length = ys.length ∧ K (zipL xs ys) (fzs ρ' os)
theorem seq_rp {K : PySem.W.Frag} {H : Hp} {x : D} {xs : List D} {v : V} (h : Rp K H x v) (e : seqOf x = some xs) : ∃ k a vs, v = .ref a ∧ SqV k K H a vs ∧ RpL K H xs vs := by
  cases x with
  | lst ys =>
    cases e
    obtain ⟨a, vs, rfl, h1, h2⟩ := h
    exact ⟨.l, a, vs, rfl, SqL.of h1, h2⟩
  | tup ys =>
    cases e
    obtain ⟨a, vs, rfl, h1, h2⟩ := h
    exact ⟨.t, a, vs, rfl, h1, h2⟩
  | _ => cases e
/-- what the heap of things that stay says of a sequence holds later, too -/
structure StayV (k : Src) (K : PySem.W.Frag) (Hs : Hp) (a : Addr) (vs : List V) : Prop where
  at_ : ∀ H, Same Hs H → SqV k K H a vs
theorem stay_of {K : PySem.W.Frag} {Hs : Hp} {x : D} {xs : List D} {v : V} (h : Rp K Hs x v) (e : seqOf x = some xs) : ∃ k a vs, v = .ref a ∧ StayV k K Hs a vs ∧ RpL K Hs xs vs := by
  cases x with
  | lst ys =>
    cases e
    obtain ⟨a, vs, rfl, h1, h2⟩ := h
    exact ⟨.l, a, vs, rfl, ⟨fun H s => SqL.of (s _ _ h1)⟩, h2⟩
  | tup ys =>
    cases e
    obtain ⟨a, vs, rfl, h1, h2⟩ := h
    exact ⟨.t, a, vs, rfl, ⟨fun H s => same_t s h1⟩, h2⟩
  | _ => cases e
theorem zipL_get {xs ys : List D} {i : Nat} {x y : D} (h : xs[i]? = some x) (h' : ys[i]? = some y) : (zipL xs ys)[i]? = some (.tup [x, y]) := by
  simp [zipL, List.getElem?_zipWith, h, h']
theorem zipL_len {xs ys : List D} (h : xs.length = ys.length) : (zipL xs ys).length = xs.length := by
  simp [zipL, h]
theorem jok_zs {P : Pm} {Hs : Hp} {k k2 : Src} {a b : Addr} {xs ys : List D} {vs ws : List V} (h : StayV k P.K Hs a vs) (h' : StayV k2 P.K Hs b ws) (r : RpL P.K Hs xs vs) (r' : RpL P.K Hs ys ws) (hl : xs.length = ys.length) : JOk P Hs (zipL xs ys) (ItS k k2 P.K a b) where
  go := fun i H s hi => by
    rw [zipL_len hl] at hi
    have h1 : i < vs.length := by rw [← r.length]; exact hi
    have h2 : i < ws.length := by rw [← r'.length]; omega
    exact ⟨vs, ws, vs[i], ws[i], h.at_ H s, h'.at_ H s, by simp [h1], by simp [h2]⟩
  stop := fun i H s hi => by
    rw [zipL_len hl] at hi
    exact ⟨vs, ws, h.at_ H s, h'.at_ H s, by rw [← r.length]; exact hi, by rw [← r'.length]; omega⟩
  yld := fun i H x H' Hs' s s' s'' hi y => by
    obtain ⟨T, x', y', rfl, hT, rfl, y1, y2⟩ := y
    obtain ⟨d, q1, q2⟩ := r.getV (y1 vs (h.at_ H s))
    obtain ⟨e, q3, q4⟩ := r'.getV (y2 ws (h'.at_ H s))
    exact ⟨_, zipL_get q1 q3, .nt hT ⟨_, _, rfl, Rp.mono s' _ _ q2, _, _, rfl, Rp.mono s' _ _ q4, rfl⟩⟩
section
variable {X : Cx} {dk : Option (Addr × Addr)} {e e2 a : Expr} {wa wb : W} {p pos tpos cp kp p2 q : Pos} {elts : List Expr} {kk j : Nat}
theorem ji_zs (hg : Gl X "zip") (hm : X.mg "zip" = none) (ha : JE X dk e wa) (hb : JE X dk e2 wb) (hs : starEach [e, e2] X.env = (false, eval e X.env) :: starEach [e2] X.env) (hs2 : starEach [e2] X.env = (false, eval e2 X.env) :: starEach [] X.env) :
    JI X dk (.Tuple elts kk tpos) (.Call (.Name "zip" p) [e, e2] [⟨some "strict", .Constant (.bool true) j cp, kp⟩] pos) (wiZs (waCons wa (waCons wb waNil))) := fun P fit =>
  pi_weak (pi_zs hg hm ((ja_cons ha (ja_cons hb ja_nil hs2) hs) P fit) hs hs2) fun σ H Q ⟨τ, Hs, ρ, K, E, q, k⟩ => ⟨τ, Hs, ρ, _, E, q, fun Hs1 H1 ρ1 vs os g1 E1 q1 ⟨x, y, xs, ys, h1, h2, h3, h4, hK⟩ => by
    obtain ⟨Hs2, g2, E2, r2⟩ := fzs_er E1 q1 h1
    obtain ⟨v, vr, ev, r3, v', vr', ev', r4, er⟩ := r2
    subst ev ev'
    cases (show vr' = _ from er)
    obtain ⟨k1, a1, us, rfl, s1, t1⟩ := stay_of r3 h2
    obtain ⟨k2, a2, us', rfl, s2, t2⟩ := stay_of r4 h3
    rw [← fit.K]
    exact ⟨k1, k2, a1, a2, us, us', rfl, s1.at_ _ E2.sub, s2.at_ _ E2.sub, k Hs2 H1 _ _ _ (g1.trans g2) E2 (jok_zs s1 s2 t1 t2 h4) hK⟩⟩
end

/-! ### sorted(set(..)) -/
def SetTx (w : World) (a : Addr) (L : List Str) : HO := .ext fun h => TxS w h a L
theorem setTx_new {P : Program} {w : World} {H : Hp} {h : Heap} {a : Addr} {L : List Str} (S : TxS w h a L) : ObjOk P w H h a (SetTx w a L) := by
  obtain ⟨ob, tb, g, m, R⟩ := S
  refine ⟨⟨ob, tb, g, m, R⟩, ⟨ob, R.at_⟩, fun h1 h2 S k => ?_⟩
  obtain ⟨ob, tb, g, m, R⟩ := S
  exact ⟨ob, tb, g, m, { R with at_ := k _ R.at_ }⟩
theorem cr_setTx {X : Cx} (hc : X.calm = true) : CallR X (.type "set") (fun vs H Q => ∃ k l xs, vs = [.ref l] ∧ SqV k X.K H l (xs.map V.str) ∧ xs.length + 1 < scanBound ∧ ∀ p, H p = none → Q (.ref p) (upd H p (SetTx X.w p (setL xs)))) := by
  intro pins s σ H vs us Q I r h
  obtain ⟨k, l, xs, rfl, hl, few, q⟩ := h
  rw [Vals.ref1 r]
  obtain ⟨its, rv, p⟩ := hl.sq I
  have e1 : its.toArray.size = xs.length := by have := rv.length; simpa using this.symm
  have e2 : ∀ (i : Nat) (h : i < xs.length) (v : Value), its.toArray[i]? = some v → ∃ t, v = .str xs[i] t := fun i hi v hv => by
    have hx : (xs.map V.str)[i]? = some (.str xs[i]) := by simp [hi]
    obtain ⟨u, h1, h2⟩ := rv.get hx
    have h3 : its[i]? = some v := by simpa using hv
    rw [h1] at h3; cases h3
    obtain ⟨t, rfl⟩ := h2
    exact ⟨t, rfl⟩
  have fin : ∀ (h' : Heap) (tk : Nat), TxS X.w h' s.heap.objs.size (setL xs) → (∀ b o, s.heap.get? b = some o → h'.get? b = some o) → EP X pins σ Q (.ref s.heap.objs.size) { s with heap := h', toks := tk } := fun h' tk S kp =>
    ⟨.ref s.heap.objs.size, _, I.laid (t' := tk) kp (Nat.le_refl _) (setTx_new S), rfl, q _ (I.hok.fresh (Nat.le_refl _))⟩
  cases k
  · exact call_set_listtx (I.ok.hd hc) p e1 e2 few fin
  · exact call_set_tupletx (I.ok.hd hc) p e1 e2 few fin
theorem vals_tx : ∀ {us : List Value} {xs : List Str}, PySem.W.EachIs (fun v x => ∃ t, v = Value.str x t) us xs → Vals (xs.map V.str) us
  | _, _, .nil => .nil
  | _, _, .cons ⟨t, e⟩ h => .cons ⟨t, e⟩ (vals_tx h)
theorem setL_len' (xs : List Str) : (setL xs).length ≤ xs.length := by
  have := setL_len xs.length xs
  rwa [List.take_length] at this
theorem cr_sortedTx {X : Cx} (hc : X.calm = true) (hu : X.A.units + 64 < cLine) : CallR X (.builtin "sorted") (fun vs H Q => ∃ a L, vs = [.ref a] ∧ H a = some (SetTx X.w a L) ∧ L.length < scanBound ∧ ∀ p, H p = none → Q (.ref p) (upd H p (.lst ((sortS L).map V.str)))) := by
  intro pins s σ H vs us Q I r h
  obtain ⟨a, L, rfl, ha, few, q⟩ := h
  rw [Vals.ref1 r]
  have S : TxS X.w s.heap a L := (I.hok a _ ha).1
  refine sorted_tx S (I.ok.hd hc) hu fun s' p out c kp e1 e2 hp hg ev => ?_
  have hv := vals_tx ev
  have hn : H p = none := I.hok.fresh hp
  have hz : ((sortS L).map V.str).length ≤ sizeLine := by
    rw [List.length_map, sortS, List.length_mergeSort]
    exact fits_of_scanBound few
  have J : Inv X pins σ (upd H p (.lst ((sortS L).map V.str))) { s with heap := s'.heap, gens := s'.gens, drawn := s'.drawn, toks := s'.toks } :=
    I.call (ch := []) (Un.laid kp hp hn) (I.hok.laid kp hp ⟨hz, out.toList, c, hv, hg⟩) (by rw [e1]; exact I.bare) (fun _ z => nomatch z)
  have e : s' = { s with heap := s'.heap, gens := s'.gens, drawn := s'.drawn, toks := s'.toks } := by
    obtain ⟨h', g', d', t', o'⟩ := s'
    cases (show o' = _ from e2)
    rfl
  rw [e]
  exact ⟨.ref p, _, J, rfl, q p hn⟩
def wSset (a : W) : W := fun ρ R => a ρ fun r ρ' => ∃ x xs, r.fz.look ρ' = some x ∧ seqOf x = some (xs.map .str) ∧ xs.length + 1 < scanBound ∧ R (.l ((sortS (setL xs)).map .str)) (r.fz.fz ρ')
theorem je_sset {X : Cx} {dk : Option (Addr × Addr)} {e : Expr} {wa : W} {p p2 q pos : Pos} (hc : X.calm = true) (hu : X.A.units + 64 < cLine) (hg : Gl X "sorted") (hm : X.mg "sorted" = none) (hg2 : Gl X "set") (hm2 : X.mg "set" = none) (ha : JE X dk e wa) (hs : starEach [e] X.env = (false, eval e X.env) :: starEach [] X.env) :
    JE X dk (.Call (.Name "sorted" p) [.Call (.Name "set" p2) [e] [] q] [] pos) (wSset wa) := fun P fit =>
  pe_weak (pe_callB (cr_sortedTx hc hu) hg hm rfl (pa_cons (pe_callTy (cr_setTx hc) hg2 hm2 rfl (pa_cons (ha P fit) pa_nil hs) (by decide) (by decide) hs rfl) pa_nil)) fun σ H Q ⟨τ, Hs, ρ, R, E, qq, k⟩ => ⟨τ, Hs, ρ, _, E, qq, fun Hs1 H1 ρ1 v1 r1 g1 E1 q1 ⟨x, xs, hx, ex, few, hR⟩ => by
    obtain ⟨Hs2, g2, E2, q2⟩ := q1.fz E1
    obtain ⟨Hs3, g3, E3, q3⟩ := O.er E2 q2 hx
    obtain ⟨k1, a1, us, rfl, s1, t1⟩ := stay_of q3 ex
    have eu := RpL.of_strs t1
    subst eu
    rw [← fit.K]
    refine ⟨k1, a1, xs, rfl, s1.at_ _ E3.sub, few, fun p1 hp1 => ?_⟩
    have E4 := (E3.new (o := SetTx X.w p1 (setL xs)) hp1).1
    refine ⟨p1, setL xs, rfl, upd_same, by have := setL_len' xs; omega, fun p2 hp2 => ?_⟩
    obtain ⟨E5, hs, h0, hf⟩ := E4.new (o := .lst ((sortS (setL xs)).map V.str)) hp2
    exact k Hs3 _ _ _ (.l _) ((g1.trans g2).trans g3) E5 ⟨⟨p2, _, rfl, hs, h0, upd_same, RpL.strs _⟩, hf⟩ hR⟩
end Pz

set_option maxRecDepth 100000
set_option maxHeartbeats 4000000
/-! Pz, part 27: min and max of two texts; x[::-1]; global constants; calls without arguments. -/
namespace Pz
open PySem L2 PySem.Spec PyProof.Rows
section
variable {prog : Program} {w : World} {A : Around} {E : Value → Shared → Prop} {s : Shared}
theorem cmp_lt {P : Nat → Value → Prop} (val : Nat → Str) (h : ∀ i v, P i v → ∃ t, v = .str (val i) t) : CmpOf prog w A .Lt P (fun i j => ltS (val i) (val j)) := fun i j vi vj s Q E hi hj q => by
  obtain ⟨t, rfl⟩ := h i vi hi
  obtain ⟨u, rfl⟩ := h j vj hj
  exact richCompare_gives (op := .Lt) (T := "str") rfl rfl F.slot_str_lt F.entry_str_lt (F.args_str_lt_2 _ _) (gives_str_lt _ _ t u) (fun z => nomatch z) q
theorem cmp_gt {P : Nat → Value → Prop} (val : Nat → Str) (h : ∀ i v, P i v → ∃ t, v = .str (val i) t) : CmpOf prog w A .Gt P (fun i j => ltS (val j) (val i)) := fun i j vi vj s Q E hi hj q => by
  obtain ⟨t, rfl⟩ := h i vi hi
  obtain ⟨u, rfl⟩ := h j vj hj
  exact richCompare_gives (op := .Gt) (T := "str") rfl rfl F.slot_str_gt F.entry_str_gt (F.args_str_gt_2 _ _) (gives_str_gt _ _ t u) (fun z => nomatch z) q
def two (x y : Str) (i : Nat) : Str := if i = 0 then x else y
theorem two_at {x y : Str} {t u : Tok} (i : Nat) (v : Value) (h : (#[Value.str x t, .str y u] : Array Value)[i]? = some v) : ∃ t, v = .str (two x y i) t := by
  match i, h with
  | 0, h => cases h; exact ⟨t, rfl⟩
  | 1, h => cases h; exact ⟨u, rfl⟩
  | i + 2, h => simp at h
theorem two_pick {x y : Str} {t u : Tok} {b : Bool} {v : Value} {bt : Nat → Nat → Bool} (hb : bt 1 0 = b) (h : (#[Value.str x t, .str y u] : Array Value)[argBest bt 1]? = some v) : v = if b then .str y u else .str x t := by
  have e : argBest bt 1 = if b then 1 else 0 := by
    show (if bt 1 0 = true then 1 else 0) = _
    rw [hb]
  rw [e] at h
  cases b <;> exact (Option.some.inj h).symm
theorem best_tx {x y : Str} {t u : Tok} {b : Bool} {op : CmpOp} {Q : Value → Shared → Prop} (hh : A.handled = none) {bt : Nat → Nat → Bool} (hc : CmpOf prog w A.in1 op (fun i v => (#[Value.str x t, .str y u] : Array Value)[i]? = some v) bt) (hb : bt 1 0 = b)
    (h : ∀ h' tk, (∀ c o, s.heap.get? c = some o → h'.get? c = some o) → Q (if b then .str y u else .str x t) { s with heap := h', toks := tk }) :
    wpAny (model prog w) A.in1 (pyIter (.ref s.heap.objs.size)) (fun it s2 => ∃ I fp wr n P St bt, it = .ref I ∧ Walks prog w A.in1 I fp wr n P St ∧ St 0 s2.heap ∧ (∀ b ∈ fp, b < s2.heap.objs.size) ∧ 0 < n ∧ CmpOf prog w A.in1 op P bt ∧
      ∀ v h' tk, P (argBest bt (n - 1)) v → (∀ b o, b ∉ wr → s2.heap.get? b = some o → h'.get? b = some o) → Q v { s2 with heap := h', toks := tk }) E { s with heap := s.heap.push { cls := .type "tuple", data := .seq #[.str x t, .str y u] } } := by
  have z1 : (s.heap.push { cls := .type "tuple", data := .seq #[.str x t, .str y u] }).objs.size = s.heap.objs.size + 1 := Heap.size_push ..
  have z2 : (s.heap.push { cls := .type "tuple", data := .seq #[.str x t, .str y u] }).IsTuple s.heap.objs.size #[.str x t, .str y u] := ⟨_, Heap.get?_push_size _ rfl, rfl, 0, rfl⟩
  refine wpAny_pyIter_tuple z2 ⟨_, _, _, _, _, _, bt, rfl, Walks.tuple (A := A.in1) hh _ s.heap.objs.size (by rw [z1]; exact Nat.ne_of_lt (Nat.lt_succ_self _)) _, ⟨⟨_, Heap.get?_push_size _ rfl, rfl, rfl⟩, z2.push _⟩, fun c hc => ?_, (by simp), hc, fun v h' tk hv kp => ?_⟩
  · have e : ∀ o : Obj, ((s.heap.push { cls := .type "tuple", data := .seq #[.str x t, .str y u] }).push o).objs.size = s.heap.objs.size + 2 := fun o => (Heap.size_push ..).trans (by rw [z1])
    rw [e]
    simp only [List.mem_cons, List.not_mem_nil, or_false] at hc
    rcases hc with rfl | rfl
    · rw [z1]; exact Nat.lt_succ_self _
    · exact Nat.lt_succ_of_lt (Nat.lt_succ_self _)
  · rw [two_pick hb hv]
    refine h h' tk fun c o e => kp c o (fun z => ?_) (Heap.get?_push_of_some _ (Heap.get?_push_of_some _ e))
    have lt := Heap.lt_size e
    rw [List.mem_singleton.mp z, z1] at lt
    exact absurd lt (Nat.not_lt_of_le (Nat.le_succ _))
end
section
variable {X : Cx}
theorem call_maxS (hc : X.calm = true) : CallR X (.builtin "max") (fun vs H Q => ∃ x y, vs = [.str x, .str y] ∧ Q (.str (if ltS x y then y else x)) H) := by
  intro pins s σ H vs us Q I r h
  obtain ⟨x, y, rfl, q⟩ := h
  obtain ⟨u, w', rfl, ⟨t, rfl⟩, ⟨t', rfl⟩⟩ := vals2 r
  refine call_max_two (best_tx (b := ltS x y) (I.ok.hd hc) (cmp_gt (two x y) fun i v h => two_at i v h) rfl fun h' tk kp => ⟨_, H, I.kept kp, ?_, q⟩)
  cases ltS x y <;> exact ⟨_, rfl⟩
theorem call_minS (hc : X.calm = true) : CallR X (.builtin "min") (fun vs H Q => ∃ x y, vs = [.str x, .str y] ∧ Q (.str (if ltS y x then y else x)) H) := by
  intro pins s σ H vs us Q I r h
  obtain ⟨x, y, rfl, q⟩ := h
  obtain ⟨u, w', rfl, ⟨t, rfl⟩, ⟨t', rfl⟩⟩ := vals2 r
  refine call_min_two (best_tx (b := ltS y x) (I.ok.hd hc) (cmp_lt (two x y) fun i v h => two_at i v h) rfl fun h' tk kp => ⟨_, H, I.kept kp, ?_, q⟩)
  cases ltS y x <;> exact ⟨_, rfl⟩

def gMaxA : FN
  | [.int i, .int j], R => R (.d (.int (if j > i then j else i)))
  | [.str x, .str y], R => R (.d (.str (if ltS x y then y else x)))
  | _, _ => False
def gMinA : FN
  | [.int i, .int j], R => R (.d (.int (if j < i then j else i)))
  | [.str x, .str y], R => R (.d (.str (if ltS y x then y else x)))
  | _, _ => False
theorem b_maxA (hc : X.calm = true) : Bfn X (.builtin "max") gMaxA := .of ((call_max2 hc).or (call_maxS hc)) fun {Hs H ds vs R Q} e sy hx hf k => by
  match ds, hf with
  | [.int i, .int j], hf =>
    obtain ⟨v, u, rfl, h1, h2⟩ := hx.two
    cases (show v = _ from h1); cases (show u = _ from h2)
    exact .inl ⟨i, j, rfl, k _ _ _ nr_int hf⟩
  | [.str i, .str j], hf =>
    obtain ⟨v, u, rfl, h1, h2⟩ := hx.two
    cases (show v = _ from h1); cases (show u = _ from h2)
    exact .inr ⟨i, j, rfl, k _ _ _ nr_str hf⟩
theorem b_minA (hc : X.calm = true) : Bfn X (.builtin "min") gMinA := .of ((call_min2 hc).or (call_minS hc)) fun {Hs H ds vs R Q} e sy hx hf k => by
  match ds, hf with
  | [.int i, .int j], hf =>
    obtain ⟨v, u, rfl, h1, h2⟩ := hx.two
    cases (show v = _ from h1); cases (show u = _ from h2)
    exact .inl ⟨i, j, rfl, k _ _ _ nr_int hf⟩
  | [.str i, .str j], hf =>
    obtain ⟨v, u, rfl, h1, h2⟩ := hx.two
    cases (show v = _ from h1); cases (show u = _ from h2)
    exact .inr ⟨i, j, rfl, k _ _ _ nr_str hf⟩
end
end Pz

set_option maxRecDepth 100000
set_option maxHeartbeats 4000000
/-! Pz, part 28: x[::-1] of lists and tuples. -/
namespace Pz
open PySem L2 PySem.Spec PyProof.Rows
theorem adj_rev (n : Nat) : Builtin.Slice.sliceAdjust none none (-1) (n : Int) = ((n : Int) - 1, -1) := rfl
theorem plc_rev (n : Nat) : Builtin.Slice.slicePlaces ((n : Int) - 1) (-1) (-1) = n := by
  unfold Builtin.Slice.slicePlaces
  rw [if_neg (by decide)]
  by_cases h : n = 0
  · subst h; rfl
  · rw [if_pos (by omega)]
    have e : ((n : Int) - 1 - -1 - 1) / - -1 = n - 1 := by
      rw [show (- -1 : Int) = 1 from rfl, Int.ediv_one]
      omega
    rw [e]
    omega
theorem fm_congr {α β : Type} {f g : α → Option β} : ∀ {l : List α}, (∀ x ∈ l, f x = g x) → l.filterMap f = l.filterMap g
  | [], _ => rfl
  | x :: l, h => by
    rw [List.filterMap_cons, List.filterMap_cons, h x List.mem_cons_self, fm_congr fun y hy => h y (List.mem_cons_of_mem _ hy)]
theorem pick_rev (xs : Array Value) : ((List.range xs.size).filterMap fun (m : Nat) => xs[((xs.size : Int) - 1 + (m : Int) * (-1)).toNat]?).toArray = xs.toList.reverse.toArray := by
  congr 1
  have e : (List.range xs.size).filterMap (fun (m : Nat) => xs[((xs.size : Int) - 1 + (m : Int) * (-1)).toNat]?) = (List.range xs.size).filterMap (fun m => xs.toList.reverse[m]?) := by
    refine fm_congr fun m hm => ?_
    have hm := List.mem_range.mp hm
    have e1 : ((xs.size : Int) - 1 + (m : Int) * (-1)).toNat = xs.size - 1 - m := by omega
    rw [e1, List.getElem?_reverse (by simpa using hm)]
    simp
  rw [e]
  have := List.filterMap_getElem?_range_length xs.toList.reverse
  simpa using this
section
variable {P : Program} {w : World} {A : Around} {E : Value → Shared → Prop} {s : Shared}
theorem app_rev {sl : Addr} {vl vu vs : Value} {n : Nat} {Q : Int × Int × Nat → Shared → Prop} (hs : s.heap.IsSliceOf sl vl vu vs) (pl : IsPart vl none) (pu : IsPart vu none) (ps : IsPart vs (some (-1))) (h : Q ((n : Int) - 1, -1, n) s) :
    wpAny (model P w) A (Builtin.Slice.sliceApplied (.ref sl) (pure (n : Int))) Q E s := by
  obtain ⟨o, ho, hc, hd⟩ := hs
  unfold Builtin.Slice.sliceApplied Builtin.Slice.sliceFields
  refine wpAny_bind (wpAny_bind (wpAny_field ho hd (x := vl) rfl (wpAny_bind (wpAny_field ho hd (x := vu) rfl (wpAny_bind (wpAny_field ho hd (x := vs) rfl (wpAny_pure ?_)))))))
  refine wpAny_bind (HT.slicePart_ ps ?_)
  refine wp_if_neg (c := ((-1 : Int) == 0) = true) (by decide) ?_
  refine wpAny_bind (HT.slicePart_ pl (wpAny_bind (HT.slicePart_ pu (wpAny_bind (wpAny_pure ?_)))))
  have e := plc_rev n
  show wpAny _ _ (pure ((n : Int) - 1, (-1 : Int), Builtin.Slice.slicePlaces ((n : Int) - 1) (-1) (-1))) _ _ s
  rw [e]
  exact wpAny_pure h
theorem item_rev {t sl : Addr} {its : Array Value} {vl vu vs : Value} {Q : Value → Shared → Prop} (ht : IsTup s.heap t its) (hs : s.heap.IsSliceOf sl vl vu vs) (pl : IsPart vl none) (pu : IsPart vu none) (ps : IsPart vs (some (-1)))
    (h : Q (.ref s.heap.objs.size) { s with heap := s.heap.push { cls := .type "tuple", data := .seq its.toList.reverse.toArray } }) (hz : its.size ≤ sizeLine) : wpAny (model P w) A (getItem (.ref t) (.ref sl)) Q E s := by
  obtain ⟨o, ho, hc, hd⟩ := id hs
  have ty : s.TypeIs (.ref sl) "slice" := ⟨o, ho, hc⟩
  have fit : sizeOk (.seq its.toList.reverse.toArray) := by
    show its.toList.reverse.toArray.size ≤ sizeLine
    simpa using hz
  unfold getItem
  try with_reducible refine wpAny_holding ?_
  first | refine wpAny_bind (wpAny_pure ?_) | skip
  refine wpAny_bind (wpAny_sequenceKey ht.typeIs (by decide) (wpAny_bind (wpAny_callSpecial?_slot (name := Str.ofString "__getitem__") ht.typeIs PyProof.Rows.slot_tuple_getitem (wpAny_call_entry PyProof.Rows.slot_tuple_getitem ht.typeIs entry_tuple_getitem ?_ (args_tuple_getitem _ _)))))
  refine wpAny_bind (m := Builtin.Tuple.tupleItemsOf (.ref t)) (tupleItemsOf_ ht (wpAny_bind (wpAny_typeOf ty ?_)))
  rw [if_pos (by decide)]
  refine wpAny_bind (app_rev hs pl pu ps ?_)
  refine wp_if_neg (c := (((its.size : Int) - 1) == 0 && (-1 : Int) == 1 && its.size == its.size) = true) (by simp) ?_
  rw [pick_rev]
  first
    | exact wpAny_bind (m := Builtin.Tuple.tupleExact _) (wpAny_newObj_type (wpAny_pure ⟨_, rfl, wpAny_pure h⟩) fit)
    | exact wpAny_bind (wpAny_bind (m := Builtin.Tuple.tupleExact _) (wpAny_newObj_type (wpAny_pure (wpAny_pure ⟨_, rfl, wpAny_pure h⟩)) fit))
    | exact wpAny_bind (wpAny_bind (m := Builtin.Tuple.tupleExact _) (wpAny_newObj_type (wpAny_pure ⟨_, rfl, wpAny_pure h⟩) fit))
end

/-- x[::-1] -/
def tRevX (K : PySem.W.Frag) (te : TE) : TE := fun σ H Q => te σ H fun x H1 => ∃ a xs, x = .ref a ∧ ((SqL K H1 a xs ∧ ∀ p, H1 p = none → Q (.ref p) (upd H1 p (.lst xs.reverse))) ∨ (SqT K H1 a xs ∧ ∀ p, H1 p = none → Q (.ref p) (upd H1 p (.tup xs.reverse))))
theorem pe_revX {X : Cx} {e : Expr} {te : TE} {k : Nat} {p1 p2 p3 pos : Pos} (he : PE X e te) : PE X (.Subscript e (.Slice none none (some (.UnaryOp .USub (.Constant (.int 1) k p1) p2)) p3) pos) (tRevX X.K te) := by
  refine ⟨fun pins s σ H Q I h => Subscript_ (thn (he.run pins s σ H _ I h) fun v s1 ⟨x, H1, I1, r1, a, xs, ex, q⟩ => ?_)⟩
  subst ex
  cases r1
  have one : PO X (some (.UnaryOp .USub (.Constant (.int 1) k p1) p2)) (tPart (tUn (rU fun i => .int (-i)) (tC (.int 1)))) := po_some (pe_un un_neg pe_int)
  refine wpAny_Slice (thn (po_none.run pins s1 σ H1 (fun o H2 => o = none ∧ H2 = H1) I1 ⟨rfl, rfl⟩) fun vl s2 ⟨l, H2, I2, pl, e1, e2⟩ => thn (po_none.run pins s2 σ H2 (fun o H3 => o = none ∧ H3 = H2) I2 ⟨rfl, rfl⟩) fun vu s3 ⟨u, H3, I3, pu, e3, e4⟩ => thn (one.run pins s3 σ H3 (fun o H4 => o = some (-1) ∧ H4 = H3) I3 ⟨1, rfl, -1, rfl, rfl, rfl⟩) fun vs s4 ⟨o, H4, I4, ps, e5, e6⟩ => ?_)
  subst e1 e2 e3 e4 e5 e6
  have I5 : Inv X pins σ H4 { s4 with heap := s4.heap.push { cls := .type "slice", data := .fields #[vl, vu, vs] } } := I4.kept (t' := s4.toks) fun b ob q => Heap.get?_push_of_some _ q
  show wpAny (model X.prog X.w) X.A (subscriptTail e (.Slice none none (some (.UnaryOp .USub (.Constant (.int 1) k p1) p2)) p3) (.ref a) (.ref s4.heap.objs.size)) (EP X pins σ Q) X.xe { s4 with heap := s4.heap.push { cls := .type "slice", data := .fields #[vl, vu, vs] } }
  rcases q with ⟨hx, q⟩ | ⟨hx, q⟩
  · obtain ⟨its, r, ht, hz⟩ := I5.list hx
    refine tail_any (ops := [.ref a, .ref s4.heap.objs.size]) ht.isList.typeIs PySem.slot_list_getitem.lookup (wpAny_getItem_list_slice ht.isList (Heap.IsSliceOf.new _ vl vu vs) pl pu ps (by decide) ?_ (by rw [List.size_toArray, ← r.length]; exact hz)) (by with_unfolding_all rfl)
    rw [PySem.W.krv_pick]
    exact ⟨.ref _, _, I5.laid (t' := s4.toks) (o := .lst xs.reverse) (fun b ob q => Heap.get?_push_of_some _ q) (Nat.le_refl _) ⟨by rw [List.length_reverse]; exact hz, _, 0, r.reverse, Heap.get?_push_size _ rfl⟩, rfl, q _ (I5.hok.fresh (Nat.le_refl _))⟩
  · obtain ⟨its, r, ht, hz⟩ := I5.tuple hx
    refine tail_any (ops := [.ref a, .ref s4.heap.objs.size]) ht.typeIs PyProof.Rows.slot_tuple_getitem.lookup (item_rev ht (Heap.IsSliceOf.new _ vl vu vs) pl pu ps ?_ (by rw [List.size_toArray, ← r.length]; exact hz)) (by with_unfolding_all rfl)
    exact ⟨.ref _, _, I5.laid (t' := s4.toks) (o := .tup xs.reverse) (fun b ob q => Heap.get?_push_of_some _ q) (Nat.le_refl _) ⟨by rw [List.length_reverse]; exact hz, _, r.reverse, IsTup.new _ _⟩, rfl, q _ (I5.hok.fresh (Nat.le_refl _))⟩
def fRev : F1
  | .lst xs, R => R (.l xs.reverse)
  | .tup xs, R => R (.d (.tup xs.reverse))
  | _, _ => False
theorem je_rev {X : Cx} {dk : Option (Addr × Addr)} {e : Expr} {wa : W} {k : Nat} {p1 p2 p3 pos : Pos} (ha : JE X dk e wa) : JE X dk (.Subscript e (.Slice none none (some (.UnaryOp .USub (.Constant (.int 1) k p1) p2)) p3) pos) (w1 wa fRev) :=
  je_op1 (g := fun x H1 Q => ∃ a xs, x = .ref a ∧ ((SqL X.K H1 a xs ∧ ∀ p, H1 p = none → Q (.ref p) (upd H1 p (.lst xs.reverse))) ∨ (SqT X.K H1 a xs ∧ ∀ p, H1 p = none → Q (.ref p) (upd H1 p (.tup xs.reverse))))) (fun {Hs H x v R Q} e sy hx hf kk => by
    cases x with
    | lst xs =>
      obtain ⟨a, vs, rfl, h1, h2⟩ := hx
      exact ⟨a, vs, rfl, .inl ⟨SqL.of h1, fun p hp => kk _ _ _ (.nl hp h2.reverse) hf⟩⟩
    | tup xs =>
      obtain ⟨a, vs, rfl, h1, h2⟩ := hx
      exact ⟨a, vs, rfl, .inr ⟨same_t e h1, fun p hp => kk _ _ _ (.nt hp h2.reverse) hf⟩⟩
    | _ => exact hf.elim) ha fun ta pa => pe_revX pa
end Pz

set_option maxRecDepth 100000
set_option maxHeartbeats 4000000
/-! Pz, part 29: constants of the module; calls without arguments. -/
namespace Pz
open PySem L2 PySem.Spec PyProof.Rows
section
variable {Γ : Gam} {Sc : Sx} {X : Cx} {dk : Option (Addr × Addr)} {x : Str} {p pos : Pos}
theorem je_glo {d : D} (G : Good Γ Sc X) (h : Glob Γ x d) (hg : Gl X x) (hd : (x == ("__debug__" : Str)) = false) : JE X dk (.Name x pos) (wc d) := fun P fit => by
  obtain ⟨u, v, h1, h2, h3⟩ := h.ex
  refine pe_weak (pe_glob hg (by rw [G.mg]; exact h1) h2 hd) fun σ H Q ⟨τ, Hs, ρ, R, E, q, k⟩ => k Hs H ρ v (.d d) (Same.refl _) E ?_ q
  show Rp P.K Hs d v
  rw [fit.K, G.K]
  exact h3 Hs
theorem je_call0 {i : FnI} (G : Good Γ Sc X) (h : Has Γ x i) (hg : Gl X x) (hdb : (x == ("__debug__" : Str)) = false) : JE X dk (.Call (.Name x p) [] [] pos) (wCall dk i waNil) := fun P fit => by
  obtain ⟨f, fd, ps, k, hk, F, hm, hK, hb⟩ := Has.at G h
  refine pe_weak (pe_callZ0 (E := fun _ _ _ => False) (F.mono hk) G.gd G.room hg hm hK hb (fun _ _ _ _ _ _ _ z => z.elim) hdb) fun σ H Q ⟨τ, Hs, ρ, R, E, q, kk⟩ => ?_
  rw [← fit.K]
  refine call_go (vs := []) (os := []) E rfl (by rw [fit.dk]; exact q) fun Hs' H' ρ' v r g E' rr hR => kk Hs' H' ρ' v r g E' rr hR
end
end Pz

set_option maxRecDepth 100000
set_option maxHeartbeats 4000000
/-! Pz, part 34: dict comprehensions. -/
namespace Pz
open PySem L2 PySem.Spec PyProof.Rows

def dcGo (g : WG) (vs : List Nat) (tt : WT) (tk tv : W) : List D → List Key → List D → S → (Res → S → Prop) → Prop
  | [], ks, ds, ρ, R => R (.m ks ds) ρ
  | x :: xs, ks, ds, ρ, R => ∃ ρ', g x (ρ.uns vs) = some ρ' ∧ tt ρ' fun b ρ2 => if b = true then tk ρ2 fun r1 ρ3 => tv ρ3 fun r2 ρ4 => ∃ y k d, r1.fz = .d y ∧ keyOf y = some k ∧ r2.fz.look ρ4 = some d ∧ ks.length < sizeLine ∧
        dcGo g vs tt tk tv xs (putKs ks k) (putVs ks ds k d) (ρ.back (r2.fz.fz ρ4) vs) R
      else dcGo g vs tt tk tv xs ks ds (ρ.back ρ2 vs) R
def wDc (wi : WI) (g : WG) (vs : List Nat) (tt : WT) (tk tv : W) : W := fun ρ R => wi ρ fun xs ρ1 => dcGo g vs tt tk tv xs [] [] ρ1 R
theorem dc_lift {P : Pm} {wi : WI} {g : WG} {ws vs : List Nat} {tt : WT} {tk tv : W} {σ : L2.St} {H : Hp} {Q : VK} (hv : ∀ v ∈ vs, v < σ.length) (hw : ∀ j ∈ ws, j ∈ vs) (h : lift P (wDc wi g vs tt tk tv) σ H Q) :
    tDc (liftI P wi) (liftGX P.K P.dk ws g) (liftTX P.K P.dk tt) (liftX P.K P.dk tk) (liftX P.K P.dk tv) vs σ H Q := by
  obtain ⟨τ, Hs, ρ, R, E, q, k⟩ := h
  refine ⟨τ, Hs, ρ, _, E, q, fun Hs1 H1 ρ1 xs J g1 E1 jok q1 => ?_⟩
  intro D hD
  obtain ⟨E2, hs, h0, hf⟩ := E1.new (o := .dK []) hD
  have hs0 : P.Hs0 D = none := Same.free E1.grow hs
  have nd : ¬ inDk P.dk D := fun z => E1.dkin D z h0
  refine ⟨fun i m H => m = xs.length - i ∧ i ≤ xs.length ∧ ∃ (Hs2 : Hp) (ρ2 : S) (ks : List Key) (acc : List Pz.D) (us : List V), Same Hs1 Hs2 ∧ ER P Hs2 H (σ ++ τ.map some) ρ2 ∧ H D = some (.dK (ks.zip us)) ∧ Hs2 D = none ∧ Fresh (σ ++ τ.map some) ρ2 (.ref D) ∧ ks.length = acc.length ∧ RpL P.K Hs2 acc us ∧ dcGo g vs tt tk tv (xs.drop i) ks acc ρ2 R,
    ⟨_, rfl, Nat.zero_le _, Hs1, ρ1, [], [], [], Same.refl _, E2, upd_same, hs, hf, rfl, rfl, q1⟩, ?_⟩
  rintro i m H ⟨rfl, hi, Hs2, ρ2, ks, acc, us, gs, E2, hHD, hsD, fD, hka, hacc, go⟩
  by_cases hlt : i < xs.length
  · right
    refine ⟨jok.go i H (gs.trans E2.sub) hlt, fun H' => i + 1 ≤ xs.length ∧ ∃ (Hs2 : Hp) (ρ2 : S) (ks : List Key) (acc : List Pz.D) (us : List V), Same Hs1 Hs2 ∧ ER P Hs2 H' (σ ++ τ.map some) ρ2 ∧ H' D = some (.dK (ks.zip us)) ∧ Hs2 D = none ∧ Fresh (σ ++ τ.map some) ρ2 (.ref D) ∧ ks.length = acc.length ∧ RpL P.K Hs2 acc us ∧ dcGo g vs tt tk tv (xs.drop (i + 1)) ks acc ρ2 R,
      fun H' hN => ⟨_, by omega, rfl, hN⟩, fun x H' y => ?_⟩
    obtain ⟨d, hd, nr⟩ := jok.yld i H x H' Hs2 (gs.trans E2.sub) gs E2.sub hlt y
    rw [List.drop_eq_getElem_cons hlt] at go
    have hd' : xs[i] = d := Option.some.inj (by rw [← hd]; simp [hlt])
    rw [hd'] at go
    obtain ⟨ρ3, hg, go⟩ := go
    -- D is held
    have EH := hold_of E2 hsD h0 hHD fD
    obtain ⟨Hs3, g3, E3, q3⟩ := NR.er (P := P.hold D (.dK (ks.zip us))) EH nr
    have E4 := E3.uns vs
    rw [wipe_app hv] at E4
    refine ⟨P.hold D (.dK (ks.zip us)), ⟨rfl, rfl⟩, τ, Hs3, ρ2.uns vs, d, ρ3, E4, q3, hg, fun σ2 l2 a2 E5 => ?_⟩
    have l2' : σ2.length = σ.length := by rw [l2, wipe_length]
    have a2' : ∀ j, j ∉ vs → σ2[j]? = σ[j]? := fun j hj => by rw [a2 j fun z => hj (hw j z), wipe_get hj]
    have a3 : ∀ j, j ∉ vs → (σ2 ++ τ.map some)[j]? = (σ ++ τ.map some)[j]? := fun j hj => by
      by_cases hl : j < σ.length
      · rw [List.getElem?_append_left hl, List.getElem?_append_left (by omega), a2' j hj]
      · rw [List.getElem?_append_right (by omega), List.getElem?_append_right (by omega), l2']
    have l3 : (σ2 ++ τ.map some).length = (σ ++ τ.map some).length := by simp [l2']
    refine ⟨wipe_ext l2' a2', P.hold D (.dK (ks.zip us)), ⟨rfl, rfl⟩, τ, Hs3, ρ3, _, E5, go, fun Hs4 H4 ρ4 b g4 E6 hb => ?_⟩
    cases b with
    | false =>
      have E7 := ER.back E3 g4 E6 l3 a3
      obtain ⟨E8, n1, n2, n3⟩ := hold_back E7 h0 hs0 nd
      exact ⟨hlt, Hs4, _, ks, acc, us, (gs.trans g3).trans g4, E8, n1, n2, n3, hka, RpL.mono (g3.trans g4) _ _ hacc, hb⟩
    | true =>
      refine ⟨P.hold D (.dK (ks.zip us)), ⟨rfl, rfl⟩, τ, Hs4, ρ4, _, E6, hb, fun Hs5 H5 ρ5 v1 r1 g5 E7 q7 hk => ?_⟩
      refine ⟨P.hold D (.dK (ks.zip us)), ⟨rfl, rfl⟩, τ, Hs5, ρ5, _, E7, hk, fun Hs5' H5' ρ5' v r g5' E7' qr ⟨y, kk, dd, ey, hky, hl, hz, hgo⟩ => ?_⟩
      obtain ⟨Hs6, g6, E8, q8⟩ := qr.fz E7'
      obtain ⟨Hs7, g7, E9, q9⟩ := O.er E8 q8 hl
      have gg := (((g4.trans g5).trans g5').trans g6).trans g7
      have E10 := ER.back E3 gg E9 l3 a3
      obtain ⟨E11, n1, n2, n3⟩ := hold_back E10 h0 hs0 nd
      have hx : v1 = kV kk := by
        cases r1 with
        | d y' => cases ey; exact keyOf_rp (Hs := Hs5) (H := H5) hky (Rt.of E7.sub q7)
        | l ys => cases ey; cases hky
        | m ks ys => cases ey; cases hky
        | p i => cases ey
      have hul : ks.length = us.length := hka.trans hacc.length
      refine ⟨ks.zip us, kk, hx, n1, by rw [List.length_zip, ← hul, Nat.min_self]; exact hz, hlt, Hs7, _, putKs ks kk, putVs ks acc kk dd, putVs ks us kk v, (gs.trans g3).trans gg, E11.upd1 n2 h0 n3, ?_, n2, n3, putVs_len hka, ((RpL.mono (g3.trans gg) _ _ hacc).putVs q9), hgo⟩
      rw [putK_zip hul]
      exact upd_same
  · have e : i = xs.length := by omega
    subst e
    left
    refine ⟨jok.stop _ H (gs.trans E2.sub) (Nat.le_refl _), ?_⟩
    rw [List.drop_length] at go
    exact k Hs2 H ρ2 _ (.m ks acc) (g1.trans gs) E2 ⟨⟨D, us, rfl, hsD, h0, hHD, hka, hacc⟩, fD⟩ go
section
variable {Γ : Gam} {Sc : Sx} {X : Cx} {dk : Option (Addr × Addr)} {kx vx tg iter : Expr} {ifs : List Expr} {scope : Scope} {own : List (Str × Nat)} {pos spos : Pos} {wi : WI} {g : WG} {ws : List Nat} {tt : WT} {tk tv : W}
theorem je_dc (G : Good Γ Sc X) (hi : JI X dk tg iter wi) (ok : BlkOk X.N X.env.scope scope own) (hw : ∀ j ∈ ws, j ∈ own.map (·.2))
    (hg : ∀ X', Good Γ (Sc.blk scope) X' → JG X' dk tg ws g) (ht : ∀ X', Good Γ (Sc.blk scope) X' → JTs X' dk ifs tt) (hk : ∀ X', Good Γ (Sc.blk scope) X' → JE X' dk kx tk) (he : ∀ X', Good Γ (Sc.blk scope) X' → JE X' dk vx tv)
    (hs : ∀ x, foldedSetIterable iter X.env x = pure x) : JE X dk (.DictComp kx vx [⟨tg, iter, ifs, 0⟩] scope pos) (wDc wi g (own.map (·.2)) tt tk tv) := fun P fit =>
  pe_weakL (pe_dc G.calm (by rw [G.N]; exact G.nd) (hi P fit) ok (fun s H C cl fp => (hg _ (G.blk s H C cl fp)).any) (fun s H C cl fp => (ht _ (G.blk s H C cl fp)).any) (fun s H C cl fp => (hk _ (G.blk s H C cl fp)).any) (fun s H C cl fp => (he _ (G.blk s H C cl fp)).any) hs) fun σ H Q hl h => by
    have := dc_lift (ix_lt ok.ix hl) hw h
    rw [fit.K, fit.dk] at this
    exact this
/-- name = {..} on one line, the name a local -/
theorem ps_setDc {i : Nat} {y : Str} {py : Pos} {wi' : TI} {g' : TG} {tt' : TT} {tk' tv' : TE} (hc : X.calm = true) (hN : X.N.Nodup) (hy : X.N[i]? = some y) (hyl : X.env.scope.names.lookup y = some .local)
    (hsw : swapsWith (.DictComp kx vx [⟨tg, iter, ifs, 0⟩] scope pos) (some (.Name y py)) spos.line X.env = pure true) (hi : PI X tg iter wi') (ok : BlkOk X.N X.env.scope scope own)
    (hg : ∀ (s : Shared) (H : Hp) (C : Addr) (cl : List (Str × Addr)) (fp : List Addr), PG (X.blk s H scope (compEnvC scope cl C X.env) fp) tg g') (ht : ∀ (s : Shared) (H : Hp) (C : Addr) (cl : List (Str × Addr)) (fp : List Addr), PTs (X.blk s H scope (compEnvC scope cl C X.env) fp) ifs tt')
    (hk : ∀ (s : Shared) (H : Hp) (C : Addr) (cl : List (Str × Addr)) (fp : List Addr), PE (X.blk s H scope (compEnvC scope cl C X.env) fp) kx tk')
    (he : ∀ (s : Shared) (H : Hp) (C : Addr) (cl : List (Str × Addr)) (fp : List Addr), PE (X.blk s H scope (compEnvC scope cl C X.env) fp) vx tv') (hs : ∀ x, foldedSetIterable iter X.env x = pure x) :
    PS X (.Assign [.Name y py] (.DictComp kx vx [⟨tg, iter, ifs, 0⟩] scope pos) spos) (tAsg (tDc wi' g' tt' tk' tv' (own.map (·.2))) (gName i)) := by
  refine ⟨fun pins s σ H D I h => ?_⟩
  rw [exec_Assign_Name_used _ _ _ _ hsw]
  refine wpAny_bind (wpAny_standAt (wpAny_bind ?_))
  show wpAny _ X.A (do let _ ← comprehension (.DictComp kx vx [⟨tg, iter, ifs, 0⟩] scope pos) scope X.env (firstIterPos [⟨tg, iter, ifs, 0⟩] pos) newDict false (eval iter X.env) (some (assign (.Name y py) X.env))) _ _ s
  have h : tDc wi' g' tt' tk' tv' (own.map (·.2)) σ H (fun x H1 => gName i x σ H1 D.nx) := h
  refine wpAny_bind (thn (dc_core (Qf := fun _ s' => SP X pins D .next s') hc hN I hi ok hg ht hk he hs h fun L C s' m H' I' q hn f => ?_) fun _ s' hq => wpAny_pure (wpAny_pure hq))
  show wpAny _ _ (assign (.Name y py) X.env (.ref L)) _ _ _
  refine wpAny_assign_Name (store_ok2 (v := V.ref L) I' hN hy (.inl hyl) rfl (fun s2 I2 ⟨a, sb, ha⟩ => ?_) (.inr hyl))
  obtain ⟨f0, f1, f2, f3, f4, f5⟩ := f
  have haC : C ≠ a := by
    rcases ha with z | z
    · rw [z]; exact f1
    · exact fun e => f4 y a z e.symm
  refine ⟨m, hn.sameBut sb haC, fun h3 sb3 => ?_⟩
  exact ⟨_, H', I2.turned (t' := s2.toks) (fun b o hb e => (sb3.2 b hb).trans e) f0 f1 f3 f4 f5, q⟩
theorem js_setDc {i : Nat} {y : Str} {py : Pos} (G : Good Γ Sc X) (hy : X.N[i]? = some y) (hyl : X.env.scope.names.lookup y = some .local) (hsw : swapsWith (.DictComp kx vx [⟨tg, iter, ifs, 0⟩] scope pos) (some (.Name y py)) spos.line X.env = pure true)
    (hi : JI X dk tg iter wi) (ok : BlkOk X.N X.env.scope scope own) (hw : ∀ j ∈ ws, j ∈ own.map (·.2))
    (hg : ∀ X', Good Γ (Sc.blk scope) X' → JG X' dk tg ws g) (ht : ∀ X', Good Γ (Sc.blk scope) X' → JTs X' dk ifs tt) (hk : ∀ X', Good Γ (Sc.blk scope) X' → JE X' dk kx tk) (he : ∀ X', Good Γ (Sc.blk scope) X' → JE X' dk vx tv)
    (hs : ∀ x, foldedSetIterable iter X.env x = pure x) : JS X dk (.Assign [.Name y py] (.DictComp kx vx [⟨tg, iter, ifs, 0⟩] scope pos) spos) (wSet i (wDc wi g (own.map (·.2)) tt tk tv)) := fun P fit =>
  ps_weakL (ps_setDc G.calm (by rw [G.N]; exact G.nd) hy hyl hsw (hi P fit) ok (fun s H C cl fp => (hg _ (G.blk s H C cl fp)).any) (fun s H C cl fp => (ht _ (G.blk s H C cl fp)).any) (fun s H C cl fp => (hk _ (G.blk s H C cl fp)).any) (fun s H C cl fp => (he _ (G.blk s H C cl fp)).any) hs) fun D σ H hl ⟨Hs, ρ, c, E, q, k1, k2, k3, k4⟩ => by
    have := dc_lift (P := P) (Q := fun x H1 => gName i x σ H1 D.nx) (ix_lt ok.ix hl) hw (inE E q fun Hs' H' ρ' v r g E' rr h => by
      obtain ⟨Hs2, g2, E2⟩ := E'.putA (i := i) rr
      exact k1 _ Hs2 H' _ (g.trans g2) E2 h)
    rw [fit.K, fit.dk] at this
    exact this
end
end Pz

set_option maxRecDepth 100000
set_option maxHeartbeats 4000000
/-! Pz, part 36: x, *y = e; star calls; dict(pairs). -/
namespace Pz
open PySem L2 PySem.Spec PyProof.Rows

/-! ### a, .., *z = e -/
section
variable {prog : Program} {w : World} {A : Around} {E : Value → Shared → Prop} {s : Shared}
theorem starT {l : Addr} {items : Array Value} {i : Nat} {Q : List Value → Shared → Prop} (hl : IsTup s.heap l items) (hh : A.handled = none) (hi : i ≤ items.size) (hz : items.size ≤ 16384)
    (h : ∀ h₂ tk, Heap.ExtBut s.heap.objs.size s.heap h₂ → wpAny (model prog w) A (newList (items.toList.drop i)) (fun d s' => Q (items.toList.take i ++ [d]) s') E { s with heap := h₂, toks := tk }) : wpAny (model prog w) A (unpackItems (.ref l) (i + 1) (some i)) Q E s := by
  have hlt : l ≠ s.heap.objs.size := by obtain ⟨o, ho, _⟩ := hl; exact Nat.ne_of_lt (Heap.lt_size ho)
  unfold unpackItems
  refine wpAny_bind ?_
  unfold notIterableAtAll
  refine wpAny_bind (wpAny_specialOf hl.typeIs slot_tuple_iter.lookup ?_)
  refine wpAny_pure ?_
  simp only [Bool.false_eq_true, if_false]
  refine wpAny_bind (wpAny_holding (iter_tuple hl ?_))
  refine wpAny_bind (wpAny_holding (draw_tuple hlt i 0 _ _ ⟨_, Heap.get?_push_size _ rfl, rfl, rfl⟩ (hl.push _) (by omega) fun h₁ hit₁ hs₁ => ?_))
  have hl₁ : IsTup h₁ l items := (hl.push _).extBut hs₁.extBut hlt
  rw [Nat.zero_add] at hit₁
  have hit₁' := hit₁
  obtain ⟨oi, hoi, _⟩ := hit₁'
  have hl₁' := hl₁
  obtain ⟨ol, hol, _⟩ := hl₁'
  rw [List.drop_zero]
  have hfl : (items.toList.take i).length = i := by rw [List.length_take, Array.length_toList]; omega
  rw [if_neg (show ¬ ((items.toList.take i).length < i) by rw [hfl]; omega)]
  refine wpAny_bind (wpAny_holding (PySem.W.kun_collect (s := { s with heap := h₁ }) (T := "tuple_iterator") (.inr (.inr (.inr rfl))) (Walks.tuple (A := A.in1) hh s.heap.objs.size l hlt items) (fun j u st => st.1.typeIs) (k := i) (by omega) ⟨hit₁, hl₁⟩ (Heap.lt_size hoi) (Heap.lt_size hol) (fun h₂ tk hk => ?_) (by rw [sizeLine_eq]; omega)))
  have hrl : (items.toList.drop i).length = items.size - i := by rw [List.length_drop, Array.length_toList]
  show wpAny _ _ (if (items.toList.drop i).length < i + 1 - 1 - i then _ else _) _ _ _
  rw [if_neg (by omega)]
  have em : (items.toList.drop i).length - (i + 1 - 1 - i) = (items.toList.drop i).length := by omega
  show wpAny _ _ (newList ((items.toList.drop i).take ((items.toList.drop i).length - (i + 1 - 1 - i))) >>= fun d => pure (items.toList.take i ++ [d] ++ (items.toList.drop i).drop ((items.toList.drop i).length - (i + 1 - 1 - i)))) _ _ _
  rw [em, List.take_length, List.drop_length]
  have he : Heap.ExtBut s.heap.objs.size s.heap h₂ := fun b o hb e => hk b o hb (hs₁.extBut b o hb (Heap.get?_push_of_some _ e))
  exact wpAny_bind (wpAny_mono (h h₂ tk he) (fun d s' q => wpAny_pure (by rw [List.append_nil]; exact q)) fun _ _ e => e)
theorem starL {l : Addr} {items : Array Value} {i : Nat} {Q : List Value → Shared → Prop} (hl : s.heap.IsList l items) (hh : A.handled = none) (hi : i ≤ items.size) (hz : items.size ≤ 16384)
    (h : ∀ h₂ tk, Heap.ExtBut s.heap.objs.size s.heap h₂ → wpAny (model prog w) A (newList (items.toList.drop i)) (fun d s' => Q (items.toList.take i ++ [d]) s') E { s with heap := h₂, toks := tk }) : wpAny (model prog w) A (unpackItems (.ref l) (i + 1) (some i)) Q E s := by
  have hlt : l ≠ s.heap.objs.size := by obtain ⟨o, ho, _⟩ := hl; exact Nat.ne_of_lt (Heap.lt_size ho)
  unfold unpackItems
  refine wpAny_bind ?_
  unfold notIterableAtAll
  refine wpAny_bind (wpAny_specialOf hl.typeIs slot_list_iter.lookup ?_)
  refine wpAny_pure ?_
  simp only [Bool.false_eq_true, if_false]
  refine wpAny_bind (wpAny_holding (wpAny_pyIter_list hl ?_))
  refine wpAny_bind (wpAny_holding (PySem.W.kun_draw hlt i 0 _ _ ⟨_, Heap.get?_push_size _ rfl, rfl, rfl⟩ (hl.push _) (by omega) fun h₁ hit₁ hs₁ => ?_))
  have hl₁ : h₁.IsList l items := (hl.push _).extBut hs₁.extBut hlt
  rw [Nat.zero_add] at hit₁
  have hit₁' := hit₁
  obtain ⟨oi, hoi, _⟩ := hit₁'
  have hl₁' := hl₁
  obtain ⟨ol, hol, _⟩ := hl₁'
  rw [List.drop_zero]
  have hfl : (items.toList.take i).length = i := by rw [List.length_take, Array.length_toList]; omega
  rw [if_neg (show ¬ ((items.toList.take i).length < i) by rw [hfl]; omega)]
  refine wpAny_bind (wpAny_holding (PySem.W.kun_collect (s := { s with heap := h₁ }) (T := "list_iterator") (.inr (.inr (.inl rfl))) (Walks.list (A := A.in1) hh s.heap.objs.size l hlt items) (fun j u st => st.1.typeIs) (k := i) (by omega) ⟨hit₁, hl₁⟩ (Heap.lt_size hoi) (Heap.lt_size hol) (fun h₂ tk hk => ?_) (by rw [sizeLine_eq]; omega)))
  have hrl : (items.toList.drop i).length = items.size - i := by rw [List.length_drop, Array.length_toList]
  show wpAny _ _ (if (items.toList.drop i).length < i + 1 - 1 - i then _ else _) _ _ _
  rw [if_neg (by omega)]
  have em : (items.toList.drop i).length - (i + 1 - 1 - i) = (items.toList.drop i).length := by omega
  show wpAny _ _ (newList ((items.toList.drop i).take ((items.toList.drop i).length - (i + 1 - 1 - i))) >>= fun d => pure (items.toList.take i ++ [d] ++ (items.toList.drop i).drop ((items.toList.drop i).length - (i + 1 - 1 - i)))) _ _ _
  rw [em, List.take_length, List.drop_length]
  have he : Heap.ExtBut s.heap.objs.size s.heap h₂ := fun b o hb e => hk b o hb (hs₁.extBut b o hb (Heap.get?_push_of_some _ e))
  exact wpAny_bind (wpAny_mono (h h₂ tk he) (fun d s' q => wpAny_pure (by rw [List.append_nil]; exact q)) fun _ _ e => e)
end
def gStar (K : PySem.W.Frag) (n : Nat) (t : TGs) : TG := fun v σ H Q => ∃ a xs, v = .ref a ∧ (SqT K H a xs ∨ SqL K H a xs) ∧ n ≤ xs.length ∧ xs.length ≤ 16384 ∧ ∀ p, H p = none → t (xs.take n ++ [.ref p]) σ (upd H p (.lst (xs.drop n))) Q
theorem vals_take {xs : List V} {us : List Value} (h : Vals xs us) : ∀ n : Nat, Vals (xs.take n) (us.take n) ∧ Vals (xs.drop n) (us.drop n) := by
  induction h with
  | nil => intro n; rw [List.take_nil, List.drop_nil, List.take_nil, List.drop_nil]; exact ⟨.nil, .nil⟩
  | cons a r ih =>
    intro n
    cases n with
    | zero => exact ⟨.nil, .cons a r⟩
    | succ n => exact ⟨.cons a (ih n).1, (ih n).2⟩
section
variable {X : Cx} {es : List Expr} {t : TGs} {k n : Nat} {pos : Pos}
theorem pg_star (hc : X.calm = true) (h : PGs X es t) (hn : (assignEach es X.env).length = n + 1) (hst : (assignEach es X.env).findIdx? (·.1) = some n) : PG X (.Tuple es k pos) (gStar X.K n t) := by
  refine ⟨fun pins s σ H v u Q I r hw => ?_⟩
  obtain ⟨a, xs, e1, hq, hl, hz, hw⟩ := hw
  subst e1
  cases r
  rw [assign_Tuple]
  refine wpAny_bind (wpAny_standAt ?_)
  unfold unpack
  rw [hn, hst]
  have fin : ∀ (its : List Value), Vals xs its → ∀ h₂ tk, Heap.ExtBut s.heap.objs.size s.heap h₂ → wpAny (model X.prog X.w) X.A (newList (its.drop n)) (fun d s' => wpAny (model X.prog X.w) X.A (assignInOrder ((assignEach es X.env).map (·.2)) (its.take n ++ [d])) (fun _ s'' => ∃ σ' H', Inv X pins σ' H' s'' ∧ Q σ' H') X.xe s') X.xe { s with heap := h₂, toks := tk } := fun its rv h₂ tk he => by
    have I1 : Inv X pins σ H { s with heap := h₂, toks := tk } := I.kept (t' := tk) fun b o e => he b o (Nat.ne_of_lt (Heap.lt_size e)) e
    have hlen : (its.drop n).length ≤ sizeLine := by rw [List.length_drop, ← rv.length, sizeLine_eq]; omega
    refine wpAny_newList ?_ hlen
    have hv := vals_take rv n
    have I2 := I1.laid (a := h₂.objs.size) (o := .lst (xs.drop n)) (h' := h₂.push { cls := .type "list", data := .seq (its.drop n).toArray }) (t' := tk) (fun b u e => Heap.get?_push_of_some _ e) (Nat.le_refl _) ⟨by rw [hv.2.length]; exact hlen, its.drop n, 0, hv.2, Heap.get?_push_size _ rfl⟩
    exact h.run pins _ σ _ (xs.take n ++ [.ref h₂.objs.size]) _ Q I2 (hv.1.append (.cons (show RelV (.ref h₂.objs.size) (.ref h₂.objs.size) from rfl) .nil)) (hw _ (I1.hok.fresh (Nat.le_refl _)))
  rcases hq with hq | hq
  · obtain ⟨its, rv, ht, _⟩ := I.tuple hq
    have hs : its.toArray.size = xs.length := by rw [List.size_toArray, rv.length]
    refine wpAny_bind (wpAny_holding (starT ht (I.ok.hd hc) (by omega) (by omega) fun h₂ tk he => ?_))
    have := fin its rv h₂ tk he
    simpa using this
  · obtain ⟨its, rv, ht, _⟩ := I.list hq
    have hs : its.toArray.size = xs.length := by rw [List.size_toArray, rv.length]
    refine wpAny_bind (wpAny_holding (starL ht.isList (I.ok.hd hc) (by omega) (by omega) fun h₂ tk he => ?_))
    have := fin its rv h₂ tk he
    simpa using this
end
section
variable {Γ : Gam} {Sc : Sx} {X : Cx} {dk : Option (Addr × Addr)} {e : Expr} {wa : W} {pos px py sp tp : Pos}
def wUnps (i j : Nat) (wa : W) : WS := fun ρ c => wa ρ fun r ρ1 => ∃ x d ds, r.fz.look ρ1 = some x ∧ seqOf x = some (d :: ds) ∧ ds.length < 16384 ∧ c.nx (((r.fz.fz ρ1).set j (.l ds)).set i (.d d))
theorem pgs_star {y : Str} {t : TG} (h : PG X (.Name y py) t) : PGs X [.Starred (.Name y py) sp] (gCons t gNil) := by
  refine ⟨fun pins s σ H vs us Q I r h' => ?_⟩
  obtain ⟨v, vr, e1, q⟩ := h'
  subst e1
  cases r with
  | cons r rr =>
    show wpAny _ _ (assignInOrder [assign (.Name y py) X.env] _) _ _ _
    refine assignInOrder_cons (thn (h.run pins s σ H _ _ _ I r q) fun _ s1 ⟨σ1, H1, I1, q1⟩ => ?_)
    obtain ⟨e2, q2⟩ := q1
    subst e2
    cases rr
    exact wpAny_pure ⟨σ1, H1, I1, q2⟩
theorem js_unps {i j : Nat} {x y : Str} {k : Nat} (G : Good Γ Sc X) (hi : X.N[i]? = some x) (hj : X.N[j]? = some y) (hij : i ≠ j) (lx : L2.Loc X.env.scope x) (ly : L2.Loc X.env.scope y) (fx : X.fn x = true ∨ X.env.scope.names.lookup x = some .local) (fy : X.fn y = true ∨ X.env.scope.names.lookup y = some .local)
    (ha : JE X dk e wa) (hs : swapsWithSole [.Tuple [.Name x px, .Starred (.Name y py) sp] k tp] e pos.line X.env = pure false) (hw : swappedStores [.Tuple [.Name x px, .Starred (.Name y py) sp] k tp] e X.env = pure none) :
    JS X dk (.Assign [.Tuple [.Name x px, .Starred (.Name y py) sp] k tp] e pos) (wUnps i j wa) := fun P fit => by
  have hN : X.N.Nodup := by rw [G.N]; exact G.nd
  have pg := pg_star (X := X) (es := [.Name x px, .Starred (.Name y py) sp]) (k := k) (pos := tp) (n := 1) G.calm (pgs_cons (pg_name (i := i) hN hi lx fx) (pgs_star (pg_name (i := j) hN hj ly fy))) rfl rfl
  refine ps_weakL (ps_asg (ha P fit) pg hs hw rfl) fun D σ H hlen ⟨Hs, ρ, c, E, q, k1, k2, k3, k4⟩ => inE E q fun Hs' H' ρ' v r g E' rr ⟨z, d, ds, hl, hz, hd, h⟩ => ?_
  obtain ⟨Hs2, g2, E2, q2⟩ := rr.fz E'
  obtain ⟨Hs3, g3, E3, q3⟩ := O.er E2 q2 hl
  have li : i < σ.length := by rw [hlen]; exact (List.getElem?_eq_some_iff.mp hi).1
  have lj : j < σ.length := by rw [hlen]; exact (List.getElem?_eq_some_iff.mp hj).1
  have key : ∀ a (vs : List V), RpL P.K Hs3 (d :: ds) vs → (SqT X.K H' a vs ∨ SqL X.K H' a vs) → gStar X.K 1 (gCons (gName i) (gCons (gName j) gNil)) (.ref a) σ H' D.nx := fun a vs hr hq => by
    obtain ⟨v0, vr, ev, r1, r2⟩ := hr
    subst ev
    refine ⟨a, v0 :: vr, rfl, hq, by simp, by rw [List.length_cons, ← r2.length]; omega, fun p hp => ?_⟩
    refine ⟨v0, [.ref p], rfl, ⟨.ref p, [], rfl, rfl, ?_⟩⟩
    obtain ⟨E4, n1, n2, n3⟩ := E3.new (o := .lst vr) hp
    have E5 := E4.set (i := j) (b := .l ds) (by rw [← E4.len]; exact lj) ⟨p, vr, rfl, n1, n2, upd_same, r2⟩ fun _ => n3.un
    have E6 := E5.set (i := i) (b := .d d) (by rw [← E5.len, List.length_set]; exact li) r1 fun z => by cases z
    rw [List.set_comm _ _ hij]
    exact k1 _ Hs3 _ _ ((g.trans g2).trans g3) E6 h
  rw [fit.K] at key q3
  cases z with
  | tup zs =>
    cases hz
    obtain ⟨a, vs, rfl, h1, h2⟩ := q3
    exact key a vs h2 (.inl (same_t E3.sub h1))
  | lst zs =>
    cases hz
    obtain ⟨a, vs, rfl, h1, h2⟩ := q3
    exact key a vs h2 (.inr (SqL.of (E3.sub _ _ h1)))
  | _ => cases hz
end

/-! ### f(a, .., *z) -/
theorem ros_data {P : Pm} {Hs : Hp} {σ : L2.St} : ∀ {ds : List D} {vs : List V}, RpL P.K Hs ds vs → ROs P Hs σ vs (ds.map O.d)
  | [], _, h => h
  | _ :: _, _, ⟨v, r, e, h1, h2⟩ => ⟨v, r, e, h1, ros_data h2⟩
def waStar (a : W) : WA := fun ρ R => a ρ fun r ρ' => ∃ x ds, r.fz.look ρ' = some x ∧ seqOf x = some ds ∧ R (ds.map O.d) (r.fz.fz ρ')
section
variable {Γ : Gam} {Sc : Sx} {X : Cx} {dk : Option (Addr × Addr)} {e : Expr} {es : List Expr} {t : TA} {wa : W} {ta : WA} {p pos sp : Pos} {x : Str}
theorem ja_star (he : JE X dk e wa) : JA X dk [.Starred e sp] (waStar wa) := fun P fit =>
  pa_weak (StX.pa_star (he P fit) pa_nil rfl) fun σ H Q ⟨τ, Hs, ρ, R, E, q, k⟩ => ⟨τ, Hs, ρ, _, E, q, fun Hs1 H1 ρ1 v1 r1 g1 E1 q1 ⟨z, ds, hl, hz, hR⟩ => by
    obtain ⟨Hs2, g2, E2, q2⟩ := q1.fz E1
    obtain ⟨Hs3, g3, E3, q3⟩ := O.er E2 q2 hl
    have key : ∀ (a : Addr) (vs : List V), RpL P.K Hs3 ds vs → (SqT X.K H1 a vs ∨ SqL X.K H1 a vs) → ∃ p xs, V.ref a = .ref p ∧ (SqT X.K H1 p xs ∨ SqL X.K H1 p xs) ∧ tNil σ H1 fun ys H2 => Q (xs ++ ys) H2 := fun a vs hr hq =>
      ⟨a, vs, rfl, hq, by
        show Q (vs ++ []) H1
        rw [List.append_nil]
        exact k Hs3 H1 _ vs _ ((g1.trans g2).trans g3) E3 (ros_data hr) hR⟩
    have hK := fit.K
    rw [hK] at key q3
    cases z with
    | tup zs =>
      cases hz
      obtain ⟨a, vs, rfl, h1, h2⟩ := q3
      exact key a vs h2 (.inl (same_t E3.sub h1))
    | lst zs =>
      cases hz
      obtain ⟨a, vs, rfl, h1, h2⟩ := q3
      exact key a vs h2 (.inr (SqL.of (E3.sub _ _ h1)))
    | _ => cases hz⟩
theorem pe_callZS {CX : CXT} {k : Nat} {f : Addr} {fd : FuncData} {ps : List Str} {sp : Sp} {E : XK} (F : FnZ X.prog X.w X.K X.mg X.base CX k f fd ps sp) (hgd : X.A.guards = some []) (hr : Room k X.A) (hg : Gl X x) (hm : X.mg x = some (.ref f)) (hk : PySem.W.keepIn X.K (.ref f) = true) (hb : Binds X.K fd ps []) (hx : Passes CX X E)
    (ha : PA X (e :: es) t) (hdb : (x == ("__debug__" : Str)) = false) (he : starEach (e :: es) X.env = (false, eval e X.env) :: starEach es X.env) (hst : (backTo pos (starEach es X.env)).any (·.1) = true) :
    PE X (.Call (.Name x p) (e :: es) [] pos) (fun σ H Q => t σ H fun vs H1 => sp vs H1 Q E) := ⟨fun pins s σ H Q I h =>
  wpAny_Call_Name_kw (ld_glob I hg hm (PySem.W.callWith_S2 (h₀ := X.base) I.ok.mod.kin hk (thn (ha.run pos pins s σ H _ I h) fun us s1 ⟨vs, H1, I1, r, q⟩ => ⟨I1.kIn, runZ F hgd hr hb hx I1 r q⟩) he hst) hdb)⟩
theorem je_callS {i : FnI} (G : Good Γ Sc X) (h : Has Γ x i) (hg : Gl X x) (hdb : (x == ("__debug__" : Str)) = false) (ha : JA X dk (e :: es) ta)
    (he : starEach (e :: es) X.env = (false, eval e X.env) :: starEach es X.env) (hst : (backTo pos (starEach es X.env)).any (·.1) = true) : JE X dk (.Call (.Name x p) (e :: es) [] pos) (wCall dk i ta) := fun P fit => by
  obtain ⟨f, fd, ps, k, hk, F, hm, hK, hb⟩ := Has.at G h
  refine pe_weak (pe_callZS (E := fun _ _ _ => False) (F.mono hk) G.gd G.room hg hm hK hb (fun _ _ _ _ _ _ _ z => z.elim) (ha P fit) hdb he hst) fun σ H Q ⟨τ, Hs, ρ, R, E, q, kk⟩ => ⟨τ, Hs, ρ, _, E, q, fun Hs1 H1 ρ1 vs os g1 E1 q1 h1 => ?_⟩
  rw [← fit.K]
  refine call_go E1 q1 (by rw [fit.dk]; exact h1) fun Hs' H' ρ' v r g E' rr hR => kk Hs' H' ρ' v r (g1.trans g) E' rr hR
/-- the callee is a slot's -/
def wCallL (Γ : Gam) (dk : Option (Addr × Addr)) (j : Nat) (t : WA) : W := fun ρ R => ∃ f i, ρ.v[j]? = some (some (.d (.cst (.ref f)))) ∧ HasF Γ f i ∧ wCall dk i t ρ R
theorem je_callLS {j : Nat} (G : Good Γ Sc X) (hN : X.N[j]? = some x) (hv : Vis X.env.scope x) (hd : (x == ("__debug__" : Str)) = false) (hcd : (x == ("__classdict__" : Str)) = false) (ha : JA X dk (e :: es) ta)
    (he : starEach (e :: es) X.env = (false, eval e X.env) :: starEach es X.env) (hst : (backTo pos (starEach es X.env)).any (·.1) = true) : JE X dk (.Call (.Name x p) (e :: es) [] pos) (wCallL Γ dk j ta) := fun P fit => by
  refine ⟨fun pins s σ H Q I ⟨τ, Hs, ρ, R, E, ⟨f, i, hs, hf, q⟩, kk⟩ => ?_⟩
  obtain ⟨fd, ps, k, hk, F, hK, hb⟩ := HasF.at G hf
  have hi : j < σ.length := by rw [I.len]; exact (List.getElem?_eq_some_iff.mp hN).1
  obtain ⟨v, h1, h2⟩ := E.slot j _ hs
  cases (show v = _ from h2)
  refine wpAny_Call_Name_kw (thn ((pe_var (pos := p) hN hv hd hcd).run pins s σ H (fun v H1 => v = .ref f ∧ H1 = H) I ⟨.ref f, app_get hi h1, rfl, rfl⟩) fun u s1 ⟨v, H1, I1, r1, q1⟩ => ?_)
  obtain ⟨rfl, rfl⟩ := q1
  cases r1
  refine PySem.W.callWith_S2 (h₀ := X.base) I.ok.mod.kin hK (thn ((ha P fit).run pos pins s1 σ _ (fun vs H2 => i.sp X.K vs H2 Q (fun _ _ _ => False)) I1 ?_) fun us s2 ⟨vs, H2, I2, r, q⟩ => ⟨I2.kIn, runZ (F.mono hk) G.gd G.room hb (fun _ _ _ _ _ _ _ z => z.elim) I2 r q⟩) he hst
  refine ⟨τ, Hs, ρ, _, E, q, fun Hs1 H1 ρ1 vs os g1 E1 q1 h1 => ?_⟩
  rw [← fit.K]
  exact call_go E1 q1 (by rw [fit.dk]; exact h1) fun Hs' H' ρ' v r g E' rr hR => kk Hs' H' ρ' v r (g1.trans g) E' rr hR
end

/-! ### a table of the module -/
section
variable {Γ : Gam} {Sc : Sx} {X : Cx} {dk : Option (Addr × Addr)} {e e2 : Expr} {wa : W} {pos p : Pos} {x : Str} {tb : List (Str × Nat × FnI)}
def wKin (neg : Bool) (tb : List (Str × Nat × FnI)) (a : W) : W := fun ρ R => a ρ fun r ρ' => ∃ s, r.fz.look ρ' = some (.str s) ∧ R (.d (.bl (neg ^^ (tb.lookup s).isSome))) ρ'
def wtKin (neg : Bool) (tb : List (Str × Nat × FnI)) (a : W) : WT := fun ρ K => a ρ fun r ρ' => ∃ s, r.fz.look ρ' = some (.str s) ∧ K (neg ^^ (tb.lookup s).isSome) ρ'
def opK : Bool → CmpOp
  | true => .NotIn
  | false => .In
theorem KTab.at (G : Good Γ Sc X) (h : KTab Γ x tb) : ∃ (a : Addr) (es : Array DictEntry) (n : Nat), X.mg x = some (.ref a) ∧ KDict X.K X.w a es n ∧ ∀ z, (tb.lookup z = none → PySem.W.nsIn X.K a z = some none) ∧
    ∀ m i, tb.lookup z = some (m, i) → ∃ (p f : Addr) (o : Obj) (its : Array Value) (q : Nat) (tk : Tok), PySem.W.nsIn X.K a z = some (some (.ref p)) ∧ X.K.lookup p = some o ∧ o.cls = .type "tuple" ∧ o.data = .seq its q ∧ its.toList = [.int (m : Int) tk, .ref f] ∧ HasF Γ f i := by
  obtain ⟨a, es, n, h⟩ := h.ex
  rw [G.mg, G.K, G.w]
  exact ⟨a, es, n, h⟩
def rKin (tb : List (Str × Nat × FnI)) (neg : Bool) (a : Addr) : R2 := fun x y H Q => ∃ z, x = .str z ∧ y = .ref a ∧ Q (.bl (neg ^^ (tb.lookup z).isSome)) H
theorem opKin (neg : Bool) {a : Addr} {es : Array DictEntry} {n : Nat} (D : KDict X.K X.w a es n) (h3 : ∀ z, (tb.lookup z = none → PySem.W.nsIn X.K a z = some none) ∧
    ∀ m i, tb.lookup z = some (m, i) → ∃ (p f : Addr) (o : Obj) (its : Array Value) (q : Nat) (tk : Tok), PySem.W.nsIn X.K a z = some (some (.ref p)) ∧ X.K.lookup p = some o ∧ o.cls = .type "tuple" ∧ o.data = .seq its q ∧ its.toList = [.int (m : Int) tk, .ref f] ∧ HasF Γ f i) : OpR X (compareOp (opK neg)) (rKin tb neg a) := by
  intro pins s σ H x y v u Q I rx ry ⟨z, e1, e2, q⟩
  have hn : ∃ r, PySem.W.nsIn X.K a z = some r ∧ r.isSome = (tb.lookup z).isSome := by
    cases hz : tb.lookup z with
    | none => exact ⟨none, (h3 z).1 hz, rfl⟩
    | some m =>
      obtain ⟨p, f, o, its, q, tk, h, _⟩ := (h3 z).2 m.1 m.2 hz
      exact ⟨_, h, rfl⟩
  obtain ⟨r, hr, er⟩ := hn
  rw [← er] at q
  cases neg with
  | true => exact op_notIn_kd D pins s σ H x y v u Q I rx ry ⟨z, r, e1, e2, hr, by simpa using q⟩
  | false => exact op_in_kd D pins s σ H x y v u Q I rx ry ⟨z, r, e1, e2, hr, by simpa using q⟩
theorem je_kin {neg : Bool} (G : Good Γ Sc X) (h : KTab Γ x tb) (hg : Gl X x) (hdb : (x == ("__debug__" : Str)) = false) (ha : JE X dk e wa) (hm : behindInMarks (opK neg) (.Name x p) = false) : JE X dk (.Compare e [opK neg] [.Name x p] pos) (wKin neg tb wa) := fun P fit => by
  obtain ⟨a, es, n, hmg, D, h3⟩ := h.at G
  refine pe_weak (pe_cmpR (opKin neg D h3) (ha P fit) (pe_glob (v := .ref a) hg hmg rfl hdb) hm) fun σ H Q ⟨τ, Hs, ρ, R, E, q, k⟩ => ⟨τ, Hs, ρ, _, E, q, fun Hs1 H1 ρ1 v1 r1 g1 E1 q1 ⟨s, hx, hR⟩ => ?_⟩
  obtain ⟨Hs2, g2, E2, q2⟩ := q1.fz E1
  exact ⟨s, q2.rt E2 hx, rfl, k Hs2 H1 ρ1 _ (.d (.bl _)) (g1.trans g2) E2 rfl hR⟩
theorem jt_kin {neg : Bool} (G : Good Γ Sc X) (h : KTab Γ x tb) (hg : Gl X x) (hdb : (x == ("__debug__" : Str)) = false) (ha : JE X dk e wa) (hm : behindInMarks (opK neg) (.Name x p) = false) : JT X dk (.Compare e [opK neg] [.Name x p] pos) (wtKin neg tb wa) := fun P fit => by
  obtain ⟨a, es, n, hmg, D, h3⟩ := h.at G
  refine pt_weak (pt_cmpR (opKin neg D h3) (ha P fit) (pe_glob (v := .ref a) hg hmg rfl hdb) hm) fun σ H Q ⟨τ, Hs, ρ, R, E, q, k⟩ => ⟨τ, Hs, ρ, _, E, q, fun Hs1 H1 ρ1 v1 r1 g1 E1 q1 ⟨s, hx, hR⟩ => ?_⟩
  obtain ⟨Hs2, g2, E2, q2⟩ := q1.fz E1
  exact ⟨s, q2.rt E2 hx, rfl, _, rfl, k Hs2 H1 ρ1 _ (g1.trans g2) E2 hR⟩
/-- T[e]: the pair -/
def wKix (Γ : Gam) (tb : List (Str × Nat × FnI)) (a : W) : W := fun ρ R => a ρ fun r ρ' => ∃ s m i, r.fz.look ρ' = some (.str s) ∧ tb.lookup s = some (m, i) ∧ ∀ f, HasF Γ f i → R (.d (.tup [.int (m : Int), .cst (.ref f)])) ρ'
theorem je_kix (G : Good Γ Sc X) (h : KTab Γ x tb) (hg : Gl X x) (hdb : (x == ("__debug__" : Str)) = false) (ha : JE X dk e wa) (hs : PlainIx e) : JE X dk (.Subscript (.Name x p) e pos) (wKix Γ tb wa) := fun P fit => by
  obtain ⟨a, es, n, hmg, D, h3⟩ := h.at G
  refine pe_weak (pe_ix ix_kdict (pe_glob (v := .ref a) hg hmg rfl hdb) (ha P fit) hs) fun σ H Q ⟨τ, Hs, ρ, R, E, q, k⟩ => ⟨τ, Hs, ρ, _, E, q, fun Hs1 H1 ρ1 v1 r1 g1 E1 q1 ⟨s, m, i, hx, hi, hR⟩ => ?_⟩
  obtain ⟨Hs2, g2, E2, q2⟩ := q1.fz E1
  obtain ⟨p', f, o, its, q', tk, z1, z2, z3, z4, z5, z6⟩ := (h3 s).2 m i hi
  refine ⟨a, s, .ref p', rfl, q2.rt E2 hx, ⟨es, n, _, D.at_, D.lit, z1, rfl⟩, ?_⟩
  refine k Hs2 H1 ρ1 _ (.d _) (g1.trans g2) E2 ?_ (hR f z6)
  show ∃ a vs, V.ref p' = .ref a ∧ SqT P.K Hs2 a vs ∧ RpL P.K Hs2 [.int (m : Int), .cst (.ref f)] vs
  refine ⟨p', [.int (m : Int), .ref f], rfl, .inr ⟨o, its, q', by rw [fit.K]; exact z2, z3, z4, ?_, ?_⟩, ⟨_, _, rfl, rfl, ⟨_, _, rfl, rfl, rfl⟩⟩⟩
  · have : its.size = 2 := by rw [← Array.length_toList, z5]; rfl
    rw [this, sizeLine_eq]; omega
  · rw [z5]
    exact .cons ⟨tk, rfl⟩ (.cons rfl .nil)
end
/-- count, f = T[word]; return len(parts) == count and f(b, *parts) -/
def wDisp (dk : Option (Addr × Addr)) (tb : List (Str × Nat × FnI)) (w p b c r : Nat) : WS := fun ρ k =>
  ∃ s ps bd m i, ρ.v[w]? = some (some (.d (.str s))) ∧ ρ.v[p]? = some (some (.l ps)) ∧ ρ.v[b]? = some (some (.d bd)) ∧ c < ρ.v.length ∧ r < ρ.v.length ∧ tb.lookup s = some (m, i) ∧
    if ps.length = m then (∃ pf, i = .pu pf ∧ ∀ f, pf (bd :: ps) fun z => k.rt z (((ρ.set c (.d (.int (m : Int)))).set r (.d (.cst (.ref f)))).fz p)) else ∀ ρ', k.rt (.d (.bl false)) ρ'
section
variable {Γ : Gam} {Sc : Sx} {X : Cx} {dk : Option (Addr × Addr)} {tb : List (Str × Nat × FnI)} {u : WS} {rest : List Stmt}
theorem okEq_int' {x y : Int} : okEq (.int x) (.int y) = true := by
  simp [okEq, D.isD, D.py, sf, PyData.depth]
theorem eq_int' {x y : Int} : (D.int x).eq (.int y) = decide (x = y) := by
  simp [D.eq, D.py, eqd, PyData.eqv, Bool.beq_eq_decide_eq]
theorem wv_at {ρ : S} {i : Nat} {x : D} {R : Res → S → Prop} (h : ρ.v[i]? = some (some (.d x))) : wv i ρ R ↔ R (.d x) ρ := by
  unfold wv; rw [h]
theorem wv_al {ρ : S} {i : Nat} {x : List D} {R : Res → S → Prop} (h : ρ.v[i]? = some (some (.l x))) : wv i ρ R ↔ R (.p i) ρ := by
  unfold wv; rw [h]
theorem disp_go {w p b c r : Nat} {ρ : S} {k : C} (hcr : c ≠ r) (hcp : c ≠ p) (hcb : c ≠ b) (hrp : r ≠ p) (hrb : r ≠ b) (q : wDisp dk tb w p b c r ρ k) :
    wSeq (wUnp (Tg.set (.tup [.nm c, .nm r])) (wKix Γ tb (wv w))) (wSeq (wRet (wAnd (w2 (wN (waCons (wv p) waNil) gLen) (wv c) (fCmp .Eq)) (wCallL Γ dk r (waCons (wv b) (waStar (wv p)))))) u) ρ k := by
  obtain ⟨s, ps, bd, m, i, hw, hp, hb, lc, lr, ht, h⟩ := q
  unfold wSeq wUnp wKix
  rw [wv_at hw]
  refine ⟨s, m, i, rfl, ht, fun f hf => ⟨_, _, rfl, rfl, ?_⟩⟩
  show wRet (wAnd (w2 (wN (waCons (wv p) waNil) gLen) (wv c) (fCmp .Eq)) (wCallL Γ dk r (waCons (wv b) (waStar (wv p))))) ((ρ.set c (.d (.int (m : Int)))).set r (.d (.cst (.ref f)))) { nx := fun ρ' => u ρ' k, rt := k.rt, bk := k.bk, ct := k.ct }
  generalize hρ : (ρ.set c (.d (.int (m : Int)))).set r (.d (.cst (.ref f))) = ρ2
  have e0 : ρ2.v = (ρ.v.set c (some (.d (.int (m : Int))))).set r (some (.d (.cst (.ref f)))) := by rw [← hρ]; rfl
  have ep : ρ2.v[p]? = some (some (.l ps)) := by rw [e0, List.getElem?_set_ne hrp, List.getElem?_set_ne hcp]; exact hp
  have eb : ρ2.v[b]? = some (some (.d bd)) := by rw [e0, List.getElem?_set_ne hrb, List.getElem?_set_ne hcb]; exact hb
  have ec : ρ2.v[c]? = some (some (.d (.int (m : Int)))) := by rw [e0, List.getElem?_set_ne hcr.symm, List.getElem?_set_self lc]
  have er : ρ2.v[r]? = some (some (.d (.cst (.ref f)))) := by rw [e0, List.getElem?_set_self (by rw [List.length_set]; exact lr)]
  have lp : O.look ρ2 (.p p) = some (.lst ps) := by simp [O.look, ep, B.dat]
  unfold wRet wAnd w2 wN waCons waNil
  rw [wv_al ep]
  refine ⟨[.lst ps], by simp [Res.fz, looks, lp], ?_⟩
  simp only [gLen]
  rw [wv_at ec]
  refine ⟨.int (ps.length : Int), .int (m : Int), rfl, rfl, ?_⟩
  simp only [fCmp, fEq]
  refine ⟨okEq_int', ?_⟩
  rw [eq_int']
  refine ⟨_, rfl, ?_⟩
  simp only [tru]
  by_cases z : ps.length = m
  · rw [if_pos z] at h
    obtain ⟨pf, rfl, h⟩ := h
    rw [if_pos (by simp [z])]
    refine ⟨f, .pu pf, er, hf, ?_⟩
    simp only [wCall]
    rw [wv_at eb]
    simp only [waStar]
    rw [wv_al ep]
    refine ⟨.lst ps, ps, lp, rfl, ?_⟩
    refine ⟨bd :: ps, ?_, ?_⟩
    · show looks _ (O.d bd :: ps.map O.d) = _
      have : ∀ (xs : List D) (ρ : S), looks ρ (xs.map O.d) = some xs := by
        intro xs
        induction xs with
        | nil => intro ρ; rfl
        | cons x xs ih => intro ρ; show (match O.look ρ (.d x), looks ρ (xs.map O.d) with | some x, some xs => some (x :: xs) | _, _ => none) = _; rw [ih]; rfl
      exact this (bd :: ps) _
    · have h1 : ∀ (xs : List D) (ρ : S), fzs ρ (xs.map O.d) = ρ := by
        intro xs
        induction xs with
        | nil => intro ρ; rfl
        | cons x xs ih => intro ρ; exact ih ρ
      have h2 := h f
      rw [hρ] at h2
      show pf (bd :: ps) fun z => k.rt z (fzs (ρ2.fz p) ((bd :: ps).map O.d))
      rw [h1]
      exact h2
  · rw [if_neg z] at h
    have zd : decide ((ps.length : Int) = (m : Int)) = false := by simp; omega
    rw [zd]
    exact h _
theorem js_disp {T xw xc xr xp xp2 xc2 xr2 xb : Str} {p0 p1 p2 p3 p4 p5 p6 p7 p8 p9 pa pb pc pd pe pf pg ph pi : Pos} {kk w p b c r : Nat} (ok : Γ.Ok) (G : Good Γ Sc X) (h : Γ.F.kd T = some tb) (hT : Gl X T) (hTd : (T == ("__debug__" : Str)) = false)
    (hlen : Gl X "len") (hcr : c ≠ r) (hcp : c ≠ p) (hcb : c ≠ b) (hrp : r ≠ p) (hrb : r ≠ b)
    (jg : JG X dk (.Tuple [.Name xc p0, .Name xr p1] kk p2) (Tg.ixs (.tup [.nm c, .nm r])) (Tg.set (.tup [.nm c, .nm r])))
    (jw : JE X dk (.Name xw p4) (wv w)) (jp : JE X dk (.Name xp p7) (wv p)) (jc : JE X dk (.Name xc2 p9) (wv c)) (jb : JE X dk (.Name xb pc) (wv b)) (jp2 : JE X dk (.Name xp2 pd) (wv p))
    (hN : X.N[r]? = some xr2) (hv : Vis X.env.scope xr2) (hd : (xr2 == ("__debug__" : Str)) = false) (hcd : (xr2 == ("__classdict__" : Str)) = false) (hm : behindInMarks .Eq (.Name xc2 p9) = false)
    (jr : JSs X dk rest u) :
    JSs X dk (.Assign [.Tuple [.Name xc p0, .Name xr p1] kk p2] (.Subscript (.Name T p3) (.Name xw p4) p5) p6 ::
      .Return (some (.BoolOp .And [.Compare (.Call (.Name "len" p8) [.Name xp p7] [] pa) [.Eq] [.Name xc2 p9] pb, .Call (.Name xr2 pe) [.Name xb pc, .Starred (.Name xp2 pd) pf] [] pg] ph)) pi :: rest) (wSeq (wDisp dk tb w p b c r) u) := by
  have J1 := js_unp (pos := p6) jg (je_kix (p := p3) (pos := p5) G (ok.kd _ _ h) hT hTd jw (fun _ _ => rfl)) rfl rfl (by rfl)
  obtain ⟨g, c1, c2⟩ := b_len (X := X)
  have Jl : JE X dk (.Call (.Name "len" p8) [.Name xp p7] [] pa) (wN (waCons (wv p) waNil) gLen) :=
    je_fn b_len (ja_cons jp ja_nil rfl) fun r ta hr hp => pe_callB hr hlen (by rw [G.mg]; exact ok.nb _ (by decide +kernel)) rfl hp (by decide) (by decide) rfl rfl
  have J2 := js_ret (pos := pi) (je_and (pos := ph) (je_cmp (op := .Eq) (pos := pb) G.hu Jl jc hm) (je_one (op := .And) (pos := ph) (je_callLS (p := pe) (pos := pg) G hN hv hd hcd (ja_cons jb (ja_star (sp := pf) jp2) rfl) rfl rfl)))
  exact fun P fit => pss_weak (js_cons J1 (js_cons J2 jr) P fit) fun D σ H ⟨Hs, ρ, k, E, q, k1, k2, k3, k4⟩ => by
    exact ⟨Hs, ρ, k, E, disp_go hcr hcp hcb hrp hrb q, k1, k2, k3, k4⟩
end

/-! ### dict(pairs) -/
def pairKD : D → Option (Key × D)
  | .tup [k, d] => (keyOf k).map fun k => (k, d)
  | _ => none
def pairsKD : List D → Option (List (Key × D))
  | [] => some []
  | x :: xs => match pairKD x, pairsKD xs with
    | some p, some ps => some (p :: ps)
    | _, _ => none
def gDict : FN
  | [.lst xs], R => ∃ ps, pairsKD xs = some ps ∧ R (.m (mrgD ps [] []).1 (mrgD ps [] []).2)
  | _, _ => False
theorem pairsKD_rp {K : PySem.W.Frag} {Hs H : Hp} (e : Same Hs H) : ∀ {xs : List D} {vs : List V} {ps : List (Key × D)}, pairsKD xs = some ps → RpL K Hs xs vs →
    ∃ (as : List Addr) (kvs : List (Key × V)), vs = as.map V.ref ∧ Paired (fun p kv => SqT K H p [kV kv.1, kv.2]) as kvs ∧ ps.map (·.1) = kvs.map (·.1) ∧ RpL K Hs (ps.map (·.2)) (kvs.map (·.2))
  | [], _, _, h, hr => by cases h; cases (show _ = [] from hr); exact ⟨[], [], rfl, .nil, rfl, rfl⟩
  | x :: xs, _, ps, h, ⟨v, r, ev, h1, h2⟩ => by
    subst ev
    unfold pairsKD at h
    split at h
    · rename_i p ps' e1 e2
      cases h
      obtain ⟨as, kvs, rfl, q1, q2, q3⟩ := pairsKD_rp e e2 h2
      unfold pairKD at e1
      split at e1 <;> first | (cases e1; done) | skip
      rename_i k d
      cases hk : keyOf k with
      | none => rw [hk] at e1; cases e1
      | some kk =>
      rw [hk] at e1
      cases e1
      obtain ⟨a, us, rfl, t1, t2⟩ := h1
      obtain ⟨v1, r1, rfl, t3, v2, r2, rfl, t4, t5⟩ := t2
      cases (show r2 = [] from t5)
      have := keyOf_rp (Hs := Hs) (H := Hs) hk (Rt.of (Same.refl _) t3)
      subst this
      exact ⟨a :: as, (kk, v2) :: kvs, rfl, .cons (same_t e t1) q1, by simp [q2], ⟨v2, _, rfl, t4, q3⟩⟩
    · cases h
theorem b_dict {X : Cx} (hc : X.calm = true) : Bfn X (.type "dict") gDict := .of (call_dictP hc) fun {Hs H ds vs R Q} e sy hx hf k => by
  match ds, hf with
  | [.lst xs], ⟨ps, hp, hR⟩ =>
    obtain ⟨v, rfl, a, us, rfl, h1, h2⟩ := hx.one
    obtain ⟨as, kvs, rfl, q1, q2, q3⟩ := pairsKD_rp e hp h2
    refine ⟨a, as, kvs, rfl, SqL.of h1, q1, fun p hn => ?_⟩
    obtain ⟨vs', z1, z2, z3⟩ := mrg_rp (ks := []) (ds := []) (vs := []) q2 q3 rfl rfl
    have z1' : mergeK [] kvs = (mrgD ps [] []).1.zip vs' := z1
    rw [z1']
    exact k _ (.m _ _) _ (.nm hn z2 z3) hR
end Pz

set_option maxRecDepth 100000
set_option maxHeartbeats 4000000
/-! Pz, part 39: enumerate over a tuple. -/
namespace Pz
open PySem L2 PySem.Spec PyProof.Rows
def tIt (t : Addr) : Obj := { cls := .type "tuple_iterator", data := .fields #[.ref t, .int 0 0] }
def eIt (i : Addr) : Obj := { cls := .type "enumerate", data := .fields #[.none, .bool false, .ref i, rawInt 0, .none, .none] }
theorem en_new {t : Addr} {its : Array Value} :
    Meets (Builtin.«enumerate.__new__» ⟨[.type "enumerate", .ref t], []⟩) (fun _ R s => s.heap.IsTuple t its ∧ R (.ok (.ret (.ref (s.heap.push (tIt t)).objs.size))) { s with heap := (s.heap.push (tIt t)).push (eIt s.heap.objs.size) }) :=
  .of_wp fun prog w A R s h => by
    obtain ⟨hp, g, d, tk, os⟩ := s
    obtain ⟨h1, h⟩ := h
    have sub := sub_enumerate
    have go : ∀ {B : Around} {X : Value → Shared → Prop} {Q : Value → Shared → Prop}, Q (.ref hp.objs.size) ⟨hp.push (tIt t), g, d, tk, os⟩ → wpAny (model prog w) B (pyIter (.ref t)) Q X ⟨hp, g, d, tk, os⟩ :=
      fun q => (begins_tuple t its).iter prog w _ _ ⟨hp, g, d, tk, os⟩ _ h1 q
    wp_walk using go
    refine wpAny_stack_any fun st => wpAny_pure ?_
    split
    · rename_i cc _ _ _ _ _
      cases (cc == Value.type "enumerate") <;> (wp_walk using go; exact ⟨_, rfl, h⟩)
    · wp_walk using go
      exact ⟨_, rfl, h⟩
theorem en_call {prog : Program} {w : World} {A : Around} {X : Value → Shared → Prop} {s : Shared} {t : Addr} {its : Array Value} {Q : Value → Shared → Prop} (ht : s.heap.IsTuple t its)
    (h : ∀ g, IsEnum g (s.heap.objs.size + 1) s.heap.objs.size 0 .none → g.IsTupleIter s.heap.objs.size t 0 → (∀ b o, s.heap.get? b = some o → g.get? b = some o) → Q (.ref (s.heap.objs.size + 1)) { s with heap := g }) :
    wpAny (model prog w) A (call (.type "enumerate") [.ref t]) Q X s := by
  refine callType_new F.called_enumerate (by decide) (F.typeCall_enumerate_1 _) (F.newCall_enumerate_1 _) (fun ob => F.args_object_init_2 ob _) F.entry_enumerate_new (en_new (t := t) (its := its)) ⟨ht, ?_⟩
  have z : (s.heap.push (tIt t)).objs.size = s.heap.objs.size + 1 := Heap.size_push ..
  have he : IsEnum ((s.heap.push (tIt t)).push (eIt s.heap.objs.size)) (s.heap.objs.size + 1) s.heap.objs.size 0 .none := by
    have q := Heap.get?_push_size (s.heap.push (tIt t)) (o := eIt s.heap.objs.size) rfl
    rw [z] at q; exact q
  show _ ∧ _
  rw [z]
  exact ⟨⟨_, he, rfl⟩, h _ he ⟨_, Heap.get?_push_of_some _ (Heap.get?_push_size _ rfl), rfl, rfl⟩ fun b o q => Heap.get?_push_of_some _ (Heap.get?_push_of_some _ q)⟩
/-- the tuple at a, each item in a new pair -/
def IteT (K : PySem.W.Frag) (a : Addr) : It :=
  ⟨fun i H => ∃ (xs : List V) (x : V), SqT K H a xs ∧ xs[i]? = some x, fun i H v H' => ∃ T x, v = .ref T ∧ H T = none ∧ H' = upd H T (.tup [.int (i : Nat), x]) ∧ ∀ xs, SqT K H a xs → xs[i]? = some x, fun i H => ∃ xs : List V, SqT K H a xs ∧ xs.length ≤ i⟩
theorem end_draw {prog : Program} {w : World} {A : Around} (hh : A.handled = none) {it a : Addr} {items : Array Value} {i : Nat} (hx : items[i]? = none) :
    Draws prog w A it [it, a] i (fun _ _ => False) (fun j h => j = i ∧ h.IsTupleIter it a i ∧ h.IsTuple a items) where
  live := fun _ _ st => by
    obtain ⟨_, ⟨o, ho, _⟩, _⟩ := st
    exact ⟨o, ho⟩
  frame := fun _ _ _ st hk => ⟨st.1, st.2.1.at fun o e => hk it (by simp) o e, st.2.2.at fun o e => hk a (by simp) o e⟩
  item := fun j s Q E hj st _ => by
    have := st.1
    omega
  done := fun s Q E st hE => wpAny_nextOf_tuple_end hh st.2.1 st.2.2 hx hE
theorem turn_enT {P : Program} {w : World} {K : PySem.W.Frag} {elts : List Expr} {kk : Nat} {tpos : Pos} (a e it : Addr) :
    Turn P w K (.Tuple elts kk tpos) (IteT K a) [e, it] e (fun i h => (∃ old, IsEnum h e it ((i : Nat) : Int) old) ∧ h.IsTupleIter it a i ∧ e ≠ it ∧ a ≠ it ∧ a ≠ e) where
  mem := by simp
  obj := fun i h st b hb => by
    obtain ⟨⟨old, he⟩, ⟨o, ho, hc, hd⟩, _⟩ := st
    have hbb : b = e ∨ b = it := by simpa using hb
    rcases hbb with z | z
    · subst z; exact ⟨_, he, fun v q => nomatch q⟩
    · subst z; exact ⟨o, ho, fun v q => by rw [hd] at q; cases q⟩
  keep := fun i h h' st k => by
    obtain ⟨⟨old, he⟩, hi, hne⟩ := st
    exact ⟨⟨old, k e (by simp) _ he⟩, hi.at fun o q => k it (by simp) o q, hne⟩
  item := by
    intro X hP hw hK hc i pins s σ H E I hf st hg
    subst hP hw hK
    obtain ⟨⟨old, he⟩, hit, hne, hai, hae⟩ := st
    obtain ⟨xs, x, hq, hx⟩ := hg
    obtain ⟨its, rv, p, hz⟩ := I.tuple hq
    obtain ⟨u, hu, ru⟩ := rv.get hx
    have hel : e < s.heap.objs.size := Heap.lt_size he
    have hil : it < s.heap.objs.size := by obtain ⟨_, q, _⟩ := hit; exact Heap.lt_size q
    have hlt : i < its.toArray.size := by
      have := (List.getElem?_eq_some_iff.mp hu).1
      simpa using this
    refine wpAny_pyNext_enum_itemD (Draws.tuple (prog := X.prog) (w := X.w) (A := X.A.in1) (I.ok.hd hc) it a hai its.toArray) he ⟨hit, p⟩ hlt hne (by simp [hne, Ne.symm hae]) fun y g tk hy ho hst hT hsz hk => ?_
    have hyu : y = u := by
      have : its[i]? = some y := by simpa using hy
      rw [hu] at this; exact (Option.some.inj this).symm
    subst hyu
    refine ⟨_, rfl, wpAny_letOwnedTupleGo_enum (s := { s with heap := g, toks := tk + 1 }) ho fun g2 he' sb => ?_⟩
    have hT2 := (sb.2 _ (Nat.ne_of_gt hel)).trans hT
    have new : ObjOk X.prog X.w (upd H s.heap.objs.size (.tup [.int (i : Nat), x])) g2 s.heap.objs.size (.tup [.int (i : Nat), x]) := ⟨by show 2 ≤ sizeLine; decide, [.int i tk, y], .cons ⟨_, rfl⟩ (.cons ru .nil), ⟨_, hT2, rfl, _, rfl⟩⟩
    have I1 : Inv X pins σ (upd H s.heap.objs.size (.tup [.int (i : Nat), x])) { s with heap := g2, toks := tk + 1 } :=
      I.turnedNew (ch := [e, it]) (fun b ob hb q => (sb.2 b (fun z => hb (by simp [z]))).trans (hk b ob (fun z => hb (by simp [z])) (fun z => hb (by simp [z])) q)) hf (Nat.le_refl _) new
    refine ⟨.ref s.heap.objs.size, _, I1, rfl, ⟨_, x, rfl, I.hok.fresh (Nat.le_refl _), rfl, fun ys hy => by rw [I.tuple_inj hy hq]; exact hx⟩, ⟨⟨y, ?_⟩, hst.1.at fun o q => (sb.2 it (Ne.symm hne)).trans q, hne, hai, hae⟩, fun b hb => ?_⟩
    · have e1 : ((i + 1 : Nat) : Int) = (i : Int) + 1 := by omega
      rw [e1]; exact he'
    · have hbb : b = e ∨ b = it := by simpa using hb
      have hl : b < s.heap.objs.size := by
        rcases hbb with z | z <;> (subst z; assumption)
      rw [upd_ne (Nat.ne_of_lt hl)]
      exact (hf b hb).1
  done := by
    intro X hP hw hK hc i pins s σ H E I hf st hg
    subst hP hw hK
    obtain ⟨⟨old, he⟩, hit, hne, hai, hae⟩ := st
    obtain ⟨xs, hq, hx⟩ := hg
    obtain ⟨its, rv, p, hz⟩ := I.tuple hq
    obtain ⟨f0, f1, f2, f3, f4, f5⟩ := hf it (by simp)
    have hl := rv.length
    exact wpAny_pyNext_enum_endD (end_draw (prog := X.prog) (w := X.w) (A := X.A.in1) (I.ok.hd hc) (it := it) (a := a) (items := its.toArray) (i := i) (by simp; omega)) he ⟨rfl, hit, p⟩ fun g eb => ⟨rfl, I.turned (t' := s.toks) (fun b o hb q => eb b o hb q) f0 f1 f3 f4 f5⟩
  self := fun A i s Q E st h => by
    obtain ⟨⟨_, he⟩, _⟩ := st
    exact wpAny_pyIter_enum he h
def iEnumT (K : PySem.W.Frag) (ta : TA) : TI := fun σ H R => ta σ H fun vs H1 => ∃ a xs, vs = [.ref a] ∧ ((SqL K H1 a xs ∧ R (Ite K a) H1) ∨ (SqT K H1 a xs ∧ R (IteT K a) H1))
theorem pi_enT {X : Cx} {e : Expr} {ta : TA} {p pos tpos : Pos} {elts : List Expr} {kk : Nat} (hg : Gl X "enumerate") (hm : X.mg "enumerate" = none) (ha : PA X [e] ta) (hs : starEach [e] X.env = [(false, eval e X.env)]) : PI X (.Tuple elts kk tpos) (.Call (.Name "enumerate" p) [e] [] pos) (iEnumT X.K ta) := by
  refine ⟨fun pins s σ H R I h => ?_⟩
  refine Call_ (ld_blt I hg hm boot_enumerate (PyProof.Rows.callWith_type1 (thn (ha.run pos pins s σ H _ I h) fun us s1 ⟨vs, H1, I1, r1, a, xs, ex, hq⟩ => ?_) hs rfl))
  subst ex
  obtain ⟨u, eu, ru⟩ := vals1 r1
  subst eu
  cases ru
  have fp : ∀ b ∈ [s1.heap.objs.size + 1, s1.heap.objs.size], s1.heap.objs.size ≤ b := fun b hb => by
    have : b = s1.heap.objs.size + 1 ∨ b = s1.heap.objs.size := by simpa using hb
    omega
  rcases hq with ⟨hq, q⟩ | ⟨hq, q⟩
  · obtain ⟨its, rv, p', hz⟩ := I1.list hq
    refine call_enumerate_list p'.isList fun g he hit hsz hk => wpAny_pyIter_enum he ?_
    have I2 : Inv X pins σ H1 { s1 with heap := g } := I1.kept (t' := s1.toks) hk
    exact ⟨s1.heap.objs.size + 1, [s1.heap.objs.size + 1, s1.heap.objs.size], _, _, H1, rfl, I2, turn_enum a (s1.heap.objs.size + 1) s1.heap.objs.size, ⟨⟨.none, he⟩, hit, Nat.succ_ne_self _⟩, fun b hb => I1.fpOk (fp b hb) (I1.hok.fresh (fp b hb)), q⟩
  · obtain ⟨its, rv, p', hz⟩ := I1.tuple hq
    have hal : a < s1.heap.objs.size := by obtain ⟨o, ho, _⟩ := p'; exact Heap.lt_size ho
    refine en_call p' fun g he hit hk => wpAny_pyIter_enum he ?_
    have I2 : Inv X pins σ H1 { s1 with heap := g } := I1.kept (t' := s1.toks) hk
    exact ⟨s1.heap.objs.size + 1, [s1.heap.objs.size + 1, s1.heap.objs.size], _, _, H1, rfl, I2, turn_enT a (s1.heap.objs.size + 1) s1.heap.objs.size, ⟨⟨.none, he⟩, hit, Nat.succ_ne_self _, Nat.ne_of_lt hal, Nat.ne_of_lt (Nat.lt_succ_of_lt hal)⟩, fun b hb => I1.fpOk (fp b hb) (I1.hok.fresh (fp b hb)), q⟩
/-- enumerate(a list or a tuple) -/
def wiEn (a : W) : WI := fun ρ K => a ρ fun r ρ' => ∃ x xs, r.fz.look ρ' = some x ∧ seqOf x = some xs ∧ K (enL xs) (r.fz.fz ρ')
section
variable {X : Cx} {dk : Option (Addr × Addr)} {e : Expr} {wa : W} {p pos : Pos}
theorem ji_enT {elts : List Expr} {kk : Nat} {tpos : Pos} (hg : Gl X "enumerate") (hm : X.mg "enumerate" = none) (ha : JE X dk e wa) (hs : starEach [e] X.env = (false, eval e X.env) :: starEach [] X.env) : JI X dk (.Tuple elts kk tpos) (.Call (.Name "enumerate" p) [e] [] pos) (wiEn wa) := fun P fit =>
  pi_weak (pi_enT hg hm ((ja_cons ha ja_nil hs) P fit) hs) fun σ H Q ⟨τ, Hs, ρ, K, E, q, k⟩ => ⟨τ, Hs, ρ, fun os ρ' => match os with
    | [o] => ∃ x xs, o.look ρ' = some x ∧ seqOf x = some xs ∧ K (enL xs) (o.fz ρ')
    | _ => False, E, q, fun Hs1 H1 ρ1 vs os g1 E1 q1 h => by
    match os, h with
    | [o], ⟨x, xs, ho, hx, hK⟩ =>
      obtain ⟨v, r, rfl, h1, h2⟩ := q1
      cases (show r = _ from h2)
      obtain ⟨Hs3, g3, E3, q3⟩ := O.er E1 h1 ho
      rw [← fit.K]
      cases x with
      | lst ys =>
        cases hx
        obtain ⟨a, vs, rfl, h3, h4⟩ := q3
        refine ⟨a, vs, rfl, .inl ⟨SqL.of (E3.sub _ _ h3), k Hs3 H1 _ _ _ (g1.trans g3) E3 ⟨fun i H s hi => ?_, fun i H s hi => ?_, fun i H x H' Hs' s s' s'' hi y => ?_⟩ hK⟩⟩
        · have hi' : i < vs.length := by rw [← h4.length]; simpa [enL] using hi
          exact ⟨vs, vs[i], SqL.of (s _ _ h3), by simp [hi']⟩
        · exact ⟨vs, SqL.of (s _ _ h3), by rw [← h4.length]; simpa [enL] using hi⟩
        · obtain ⟨T, x', rfl, hT, rfl, y⟩ := y
          obtain ⟨d, q1, q2⟩ := h4.getV (y vs (SqL.of (s _ _ h3)))
          exact ⟨_, enL_get q1, .nt hT ⟨_, _, rfl, rfl, _, _, rfl, Rp.mono s' _ _ q2, rfl⟩⟩
      | tup ys =>
        cases hx
        obtain ⟨a, vs, rfl, h3, h4⟩ := q3
        refine ⟨a, vs, rfl, .inr ⟨same_t E3.sub h3, k Hs3 H1 _ _ _ (g1.trans g3) E3 ⟨fun i H s hi => ?_, fun i H s hi => ?_, fun i H x H' Hs' s s' s'' hi y => ?_⟩ hK⟩⟩
        · have hi' : i < vs.length := by rw [← h4.length]; simpa [enL] using hi
          exact ⟨vs, vs[i], same_t s h3, by simp [hi']⟩
        · exact ⟨vs, same_t s h3, by rw [← h4.length]; simpa [enL] using hi⟩
        · obtain ⟨T, x', rfl, hT, rfl, y⟩ := y
          obtain ⟨d, q1, q2⟩ := h4.getV (y vs (same_t s h3))
          exact ⟨_, enL_get q1, .nt hT ⟨_, _, rfl, rfl, _, _, rfl, Rp.mono s' _ _ q2, rfl⟩⟩
      | _ => cases hx⟩
end
end Pz

set_option maxRecDepth 100000
set_option maxHeartbeats 4000000
/-! Pz, part 13: a def's text in short form, what it means, that it is this text. -/
namespace Pz
open PySem L2 PySem.Spec PyProof.Rows

inductive Fn where
  | len | repr | tuple | list | sorted | sum | max | min | all | any | int | str | dict
  deriving DecidableEq
def Fn.nm : Fn → Str
  | .len => "len" | .repr => "repr" | .tuple => "tuple" | .list => "list" | .sorted => "sorted" | .sum => "sum" | .max => "max" | .min => "min" | .all => "all" | .any => "any" | .int => "int" | .str => "str" | .dict => "dict"
def Fn.g : Fn → FN
  | .len => gLen | .repr => gRepr | .tuple => gTuple | .list => gList | .sorted => gSorted | .sum => gSum | .max => gMaxA | .min => gMinA | .all => gAll | .any => gAny | .int => gInt | .str => gStr | .dict => gDict

inductive IE where
  | non
  | bl (b : Bool)
  | int (i : Int)
  | str (x : Str)
  | var (i : Nat)
  | glo (x : Str)
  | rev (a : IE)
  | sset (a : IE)
  | bin (op : Operator) (a b : IE)
  | cmp (op : CmpOp) (a b : IE)
  | chn (op op' : CmpOp) (a b c : IE)
  | neg (a : IE)
  | not (a : IE)
  | and (es : List IE)
  | or (es : List IE)
  | ite (c a b : IE)
  | ix (a b : IE)
  | sl (a : IE) (lo hi : Option IE)
  | tup (es : List IE)
  | lst (es : List IE)
  | call (x : Str) (es : List IE)
  | kcall (x : Str) (ks : List Str) (es : List IE)
  | fn (f : Fn) (es : List IE)
  | isi (t : Ty) (a : IE)
  | mth (m : Mth) (o : IE) (es : List IE)
  | app (i : Nat) (a : IE)
  | ext (i : Nat) (a : IE)
  | pop (i : Nat)
  | dct (es : List IE)
  | lc (elt : IE) (tg : Tg) (k : Nat) (src : List IE) (ifs : List IE) (own : List (Str × Nat))
  | dc (kx vx : IE) (tg : Tg) (k : Nat) (src : List IE) (ifs : List IE) (own : List (Str × Nat))
  | callS (x : Str) (es : List IE)
  | kin (neg : Bool) (a : IE) (x : Str)
inductive IS where
  | set (i : Nat) (e : IE)
  | unp (tg : Tg) (e : IE)
  | par (is : List Nat) (es : List IE)
  | drop (e : IE)
  | ret (e : IE)
  | retN
  | ite (c : IE) (a b : List IS)
  | for_ (tg : Tg) (k : Nat) (src : List IE) (b : List IS)
  | whl (c : IE) (b : List IS)
  | brk
  | cnt
  | pass
  | frz (i : Nat)
  | rais
  | unps (i j : Nat) (e : IE)
  | disp (x : Str) (w p b c r : Nat)

/-! ### what it means -/
abbrev Ws := W × WT
def pl (w : W) : Ws := (w, wtv w)
def wBad : W := fun _ _ => False
def wiBad : WI := fun _ _ => False
def andW : List W → W
  | [] => wBad
  | [a] => a
  | a :: r => wAnd a (andW r)
def orW : List W → W
  | [] => wBad
  | [a] => a
  | a :: r => wOr a (orW r)
def andT : List WT → WT
  | [] => fun _ _ => False
  | [a] => a
  | a :: r => wtAnd a (andT r)
def orT : List WT → WT
  | [] => fun _ _ => False
  | [a] => a
  | a :: r => wtOr a (orT r)
def wisW : List W → WA
  | [] => waNil
  | a :: r => waCons a (wisW r)
def wisWS : List W → WA
  | [] => waNil
  | [s] => waStar s
  | a :: r => waCons a (wisWS r)
def srcW : Nat → List W → WI
  | 0, [a] => wiSeq a
  | 1, [a] => wiRng1 a
  | 2, [a, b] => wiRng2 a b
  | 3, [a] => wiEn a
  | 4, [a, b] => wiZs (waCons a (waCons b waNil))
  | _, _ => wiBad
def prs : List W → List (W × W)
  | a :: b :: r => (a, b) :: prs r
  | _ => []
def ifsW : List WT → WT
  | [] => wtYes
  | [t] => t
  | _ => fun _ _ => False
section
variable (F : Fs) (dk : Option (Addr × Addr))
mutual
def IE.sm : IE → Ws
  | .non => pl (wc .non)
  | .bl b => pl (wc (.bl b))
  | .int i => pl (wc (.int i))
  | .str x => pl (wc (.str x))
  | .var i => pl (wv i)
  | .glo x => pl (match F.gv x with
    | some d => wc d
    | none => wBad)
  | .rev a => pl (w1 a.sm.1 fRev)
  | .sset a => pl (wSset a.sm.1)
  | .bin op a b => pl (w2 a.sm.1 b.sm.1 (fBin op))
  | .cmp op a b => (w2 a.sm.1 b.sm.1 (fCmp op), wtCmp a.sm.1 b.sm.1 (fCmp op))
  | .chn op op' a b c => (wChain a.sm.1 b.sm.1 c.sm.1 (fCmp op) (fCmp op'), wtChain a.sm.1 b.sm.1 c.sm.1 (fCmp op) (fCmp op'))
  | .neg a => pl (w1 a.sm.1 fNeg)
  | .not a => (wNot a.sm.1, wtNot a.sm.2)
  | .and es => (andW ((IE.sms es).map (·.1)), andT ((IE.sms es).map (·.2)))
  | .or es => (orW ((IE.sms es).map (·.1)), orT ((IE.sms es).map (·.2)))
  | .ite c a b => pl (wIf c.sm.2 a.sm.1 b.sm.1)
  | .ix a b => pl (w2 a.sm.1 b.sm.1 fIx)
  | .sl a lo hi => pl (wSl a.sm.1 (IE.smo lo) (IE.smo hi))
  | .tup es => pl (wTup (wisW ((IE.sms es).map (·.1))))
  | .lst es => pl (wLst (wisW ((IE.sms es).map (·.1))))
  | .call x es => pl (match F.fn x with
    | some i => wCall dk i (wisW ((IE.sms es).map (·.1)))
    | none => wBad)
  | .kcall x ks es => pl (match F.kw x ks with
    | some i => wCall dk i (wisW ((IE.sms es).map (·.1)))
    | none => wBad)
  | .fn f es => pl (wN (wisW ((IE.sms es).map (·.1))) f.g)
  | .isi t a => pl (wIsi t a.sm.1)
  | .mth m o es => pl (wMth m o.sm.1 (wisW ((IE.sms es).map (·.1))))
  | .app i a => pl (wApp i a.sm.1)
  | .ext i a => pl (wExt i a.sm.1)
  | .pop i => pl (wPop i)
  | .dct [] => pl wDct0
  | .dct (e :: es) => pl (wDct (prs ((IE.sms (e :: es)).map (·.1))))
  | .lc elt tg k src ifs own => pl (wLc (srcW k ((IE.sms src).map (·.1))) tg.set (own.map (·.2)) (ifsW ((IE.sms ifs).map (·.2))) elt.sm.1)
  | .dc kx vx tg k src ifs own => pl (wDc (srcW k ((IE.sms src).map (·.1))) tg.set (own.map (·.2)) (ifsW ((IE.sms ifs).map (·.2))) kx.sm.1 vx.sm.1)
  | .callS x es => pl (match F.fn x with
    | some i => wCall dk i (wisWS ((IE.sms es).map (·.1)))
    | none => wBad)
  | .kin n a x => match F.kd x with
    | some tb => (wKin n tb a.sm.1, wtKin n tb a.sm.1)
    | none => (wBad, fun _ _ => False)
def IE.sms : List IE → List Ws
  | [] => []
  | e :: es => e.sm :: IE.sms es
def IE.smo : Option IE → WO
  | none => woNo
  | some e => woE e.sm.1
end
def IE.ws (es : List IE) : List W := (IE.sms F dk es).map (·.1)
def wFrz (i : Nat) : WS := fun ρ c => c.nx (ρ.fz i)
def wRais : WS := fun _ _ => False
mutual
def IS.sm : IS → WS
  | .set i e => wSet i (e.sm F dk).1
  | .unp tg e => wUnp tg.set (e.sm F dk).1
  | .par is es => wPar is ((IE.sms F dk es).map (·.1))
  | .drop e => wDrop (e.sm F dk).1
  | .ret e => wRet (e.sm F dk).1
  | .retN => wRet (wc .non)
  | .ite c a b => wIfS (c.sm F dk).2 (IS.sms a) (IS.sms b)
  | .for_ tg k src b => wFor (srcW k ((IE.sms F dk src).map (·.1))) tg.set (IS.sms b)
  | .whl c b => wWhile (c.sm F dk).2 (IS.sms b)
  | .brk => wBrk
  | .cnt => wCnt
  | .pass => wNext
  | .frz i => wFrz i
  | .rais => wRais
  | .unps i j e => wUnps i j (e.sm F dk).1
  | .disp x w p b c r => match F.kd x with
    | some tb => wDisp dk tb w p b c r
    | none => fun _ _ => False
def IS.sms : List IS → WS
  | [] => wNext
  | s :: r => wSeq s.sm (IS.sms r)
end
end

/-! ### the text at hand -/
def Sx.vis (c : Sx) (i : Nat) (x : Str) : Bool := decide (c.N[i]? = some x) && (decide (c.sc.names.lookup x = some .local) || decide (c.sc.names.lookup x = some .cell) || decide (c.sc.names.lookup x = some .free)) && !(x == "__debug__") && !(x == "__classdict__")
def Sx.loc (c : Sx) (i : Nat) (x : Str) : Bool := decide (c.N[i]? = some x) && (decide (c.sc.names.lookup x = some .local) || (decide (c.sc.names.lookup x = some .cell) && c.fb x))
def Sx.gl (c : Sx) (x : Str) : Bool := decide (c.sc.names.lookup x = some .globalImplicit)
def blkB (c : Sx) (scope : Scope) (own : List (Str × Nat)) : Bool :=
  decide (scope.kind = .function) && scope.names.all (fun y => decide (scope.names.lookup y.1 = some y.2)) && own.all (fun p => decide (c.N[p.2]? = some p.1)) &&
  scope.names.all (fun y => !decide (y.2 = .free) || (decide (c.sc.names.lookup y.1 = some .cell) || decide (c.sc.names.lookup y.1 = some .free))) &&
  scope.names.all (fun y => !(decide (y.2 = .local) || decide (y.2 = .cell)) || (decide (y.1 ∈ own.map (·.1)) || decide (y.1 ∉ c.N)))
mutual
def chkG (c : Sx) : Tg → Expr → Bool
  | .nm i, .Name x _ => c.loc i x
  | .tup ts, .Tuple es _ _ => chkGs c ts es
  | _, _ => false
def chkGs (c : Sx) : List Tg → List Expr → Bool
  | [], [] => true
  | t :: ts, e :: es => chkG c t e && chkGs c ts es
  | _, _ => false
end
def okM (m : Bool) (e : Expr) : Bool := !m || plainT e
def plainIxB : Expr → Bool
  | .Slice .. => false
  | .Tuple .. => false
  | _ => true
def noSet : Expr → Bool
  | .Set .. => false
  | _ => true
mutual
def chk (m : Bool) (c : Sx) : IE → Expr → Bool
  | .non, .Constant .none _ _ => !m
  | .bl b, .Constant (.bool b') _ _ => !m && decide (b = b')
  | .int i, .Constant (.int j) _ _ => !m && decide (i = j)
  | .str x, .Constant (.str y) _ _ => !m && decide (x = y)
  | .var i, .Name x _ => c.vis i x
  | .glo y, .Name x _ => decide (y = x) && c.gl x && !(x == "__debug__")
  | .rev a, .Subscript x (.Slice none none (some (.UnaryOp .USub (.Constant (.int i) _ _) _)) _) _ => decide (i = 1) && chk false c a x
  | .sset a, .Call (.Name y _) [.Call (.Name z _) [x] [] _] [] _ => decide (y = "sorted") && decide (z = "set") && c.gl y && c.gl z && noStar x && chk false c a x
  | .call x [], .Call (.Name y _) [] [] _ => decide (x = y) && c.gl y && !(y == "__debug__")
  | .bin op a b, .BinOp x op' y _ => decide (op = op') && (chk false c a x && chk false c b y)
  | .cmp op a b, .Compare x [op'] [y] _ => decide (op = op') && !behindInMarks op y && (chk false c a x && chk false c b y)
  | .chn op1 op2 a b d, .Compare x [op1', op2'] [y, z] _ => decide (op1 = op1') && decide (op2 = op2') && !lastMarks [op1, op2] [y, z] && (chk false c a x && (chk false c b y && chk false c d z))
  | .neg a, .UnaryOp .USub x _ => !m && chk false c a x
  | .not a, .UnaryOp .Not x _ => chk m c a x
  | .and es, .BoolOp .And xs _ => !es.isEmpty && chks m c es xs
  | .or es, .BoolOp .Or xs _ => !es.isEmpty && chks m c es xs
  | .ite t a b, .IfExp x y z _ => !m && (chk true c t x && (chk false c a y && chk false c b z))
  | .ix a b, .Subscript x y _ => plainIxB y && (chk false c a x && chk false c b y)
  | .sl a lo hi, .Subscript x (.Slice l h none _) _ => chk false c a x && (chko c lo l && chko c hi h)
  | .tup es, .Tuple xs _ _ => !m && (xs.all noStar && chks false c es xs)
  | .lst es, .List xs _ => !m && (xs.all noStar && chks false c es xs)
  | .call x (e :: es), .Call (.Name y _) (z :: zs) [] _ => decide (x = y) && c.gl y && !(y == "__debug__") && (z :: zs).all noStar && chks false c (e :: es) (z :: zs)
  | .kcall x ks es, .Call (.Name y _) [] kws _ => decide (x = y) && c.gl y && !(y == "__debug__") && decide (kws.map (·.arg) = ks.map some) && chks false c es (kws.map (·.value))
  | .fn f (e :: es), .Call (.Name y _) (z :: zs) [] _ => decide (y = f.nm) && c.gl y && (z :: zs).all noStar && chks false c (e :: es) (z :: zs)
  | .isi t a, .Call (.Name y _) [x, .Name z _] [] _ => decide (y = "isinstance") && decide (z = t.nmS) && c.gl y && c.gl z && noStar x && chk false c a x
  | .mth k o [], .Call (.Attribute x nm ap) [] [] cp => decide (nm = k.nm) && plainO x && (ap.endLine == cp.line) && chk false c o x
  | .mth k o (e :: es), .Call (.Attribute x nm ap) (z :: zs) [] cp => decide (nm = k.nm) && plainO x && (ap.endLine == cp.line) && (z :: zs).all noStar && decide ((z :: zs).length < 30) && (chk false c o x && chks false c (e :: es) (z :: zs))
  | .app i a, .Call (.Attribute (.Name x _) nm ap) [y] [] cp => decide (nm = "append") && c.vis i x && (ap.endLine == cp.line) && noStar y && chk false c a y
  | .ext i a, .Call (.Attribute (.Name x _) nm ap) [y] [] cp => decide (nm = "extend") && c.vis i x && (ap.endLine == cp.line) && noStar y && chk false c a y
  | .pop i, .Call (.Attribute (.Name x _) nm ap) [] [] cp => decide (nm = "pop") && c.vis i x && (ap.endLine == cp.line)
  | .dct [], .Dict [] [] _ => !m
  | .dct (e :: es), .Dict ks vs _ => !m && decide (ks.length ≤ 15) && chkD c (e :: es) ks vs
  | .lc elt tg k src ifs own, .ListComp x [⟨tg', iter, ifs', 0⟩] scope _ => !m && decide (ifs'.length ≤ 1) && blkB c scope own && tg.ixs.all (fun j => decide (j ∈ own.map (·.2))) && noSet iter && chkG (c.blk scope) tg tg' && (chkI c k src tg' iter && (chks true (c.blk scope) ifs ifs' && chk false (c.blk scope) elt x))
  | .dc kx vx tg k src ifs own, .DictComp x y [⟨tg', iter, ifs', 0⟩] scope _ => !m && decide (ifs'.length ≤ 1) && blkB c scope own && tg.ixs.all (fun j => decide (j ∈ own.map (·.2))) && noSet iter && chkG (c.blk scope) tg tg' && (chkI c k src tg' iter && (chks true (c.blk scope) ifs ifs' && (chk false (c.blk scope) kx x && chk false (c.blk scope) vx y)))
  | .callS x (e :: es), .Call (.Name y _) (z :: zs) [] _ => decide (x = y) && c.gl y && !(y == "__debug__") && noStar z && chkSt c (e :: es) (z :: zs)
  | .kin n a x, .Compare e [op] [.Name y p] _ => decide (op = opK n) && decide (x = y) && c.gl y && !(y == "__debug__") && !behindInMarks (opK n) (.Name y p) && chk false c a e
  | _, _ => false
def chkSt (c : Sx) : List IE → List Expr → Bool
  | [e], [.Starred z _] => chk false c e z
  | e :: e2 :: es, z :: zs => noStar z && (chk false c e z && chkSt c (e2 :: es) zs)
  | _, _ => false
def chks (m : Bool) (c : Sx) : List IE → List Expr → Bool
  | [], [] => true
  | e :: es, x :: xs => chk m c e x && chks m c es xs
  | _, _ => false
def chko (c : Sx) : Option IE → Option Expr → Bool
  | none, none => true
  | some e, some x => chk false c e x
  | _, _ => false
def chkD (c : Sx) : List IE → List (Option Expr) → List Expr → Bool
  | [], [], [] => true
  | a :: b :: es, some k :: ks, v :: vs => chk false c a k && (chk false c b v && chkD c es ks vs)
  | _, _, _ => false
def chkI (c : Sx) : Nat → List IE → Expr → Expr → Bool
  | 0, [a], _, x => chk false c a x
  | 1, [a], _, .Call (.Name y _) [x] [] _ => decide (y = "range") && c.gl y && noStar x && chk false c a x
  | 2, [a, b], _, .Call (.Name y _) [x, z] [] _ => decide (y = "range") && c.gl y && noStar x && noStar z && (chk false c a x && chk false c b z)
  | 4, [a, b], .Tuple _ _ _, .Call (.Name y _) [x, z] [⟨some kw, .Constant (.bool true) _ _, _⟩] _ => decide (y = "zip") && decide (kw = "strict") && c.gl y && noStar x && noStar z && (chk false c a x && chk false c b z)
  | 3, [a], .Tuple _ _ _, .Call (.Name y _) [x] [] _ => decide (y = "enumerate") && c.gl y && noStar x && chk false c a x
  | _, _, _, _ => false
end
end Pz

set_option maxRecDepth 100000
set_option maxHeartbeats 4000000
/-! Pz, part 14: the short form is true of the text: expressions. -/
namespace Pz
open PySem L2 PySem.Spec PyProof.Rows

section
variable {Γ : Gam} {c : Sx} {X : Cx} {i : Nat} {x : Str} {dk : Option (Addr × Addr)}
theorem vis_ok (G : Good Γ c X) (h : c.vis i x = true) : X.N[i]? = some x ∧ Vis X.env.scope x ∧ (x == ("__debug__" : Str)) = false ∧ (x == ("__classdict__" : Str)) = false := by
  simp only [Sx.vis, Bool.and_eq_true, Bool.or_eq_true, decide_eq_true_eq, Bool.not_eq_true'] at h
  obtain ⟨⟨⟨h1, h2⟩, h3⟩, h4⟩ := h
  rw [G.N]
  refine ⟨h1, ?_, h3, h4⟩
  unfold Vis
  rw [G.sc]
  rcases h2 with (h | h) | h
  · exact .inl h
  · exact .inr (.inl h)
  · exact .inr (.inr h)
theorem loc_ok (G : Good Γ c X) (h : c.loc i x = true) : X.N[i]? = some x ∧ L2.Loc X.env.scope x ∧ (X.fn x = true ∨ X.env.scope.names.lookup x = some .local) := by
  simp only [Sx.loc, Bool.and_eq_true, Bool.or_eq_true, decide_eq_true_eq] at h
  obtain ⟨h1, h2⟩ := h
  rw [G.N]
  unfold L2.Loc
  rw [G.sc, G.fb]
  rcases h2 with h | ⟨h, h'⟩
  · exact ⟨h1, .inl h, .inr h⟩
  · exact ⟨h1, .inr h, .inl h'⟩
theorem gl_ok (G : Good Γ c X) (h : c.gl x = true) : Gl X x := by
  simp only [Sx.gl, decide_eq_true_eq] at h
  unfold Gl Env.kindOf
  rw [G.sc]; exact h
theorem mg_none (ok : Γ.Ok) (G : Good Γ c X) (h : x ∈ blts) : X.mg x = none := by rw [G.mg]; exact ok.nb x h
theorem fold_ok {e : Expr} (h : noSet e = true) (env : Env) : ∀ x, foldedSetIterable e env x = pure x := by
  cases e <;> first | (intro _; rfl) | (exact absurd h (by simp [noSet]))
theorem plainIx_ok {b : Expr} (h : plainIxB b = true) : PlainIx b := by
  cases b <;> first | (intro _ _; rfl) | (exact absurd h (by simp [plainIxB]))
theorem blk_ok (G : Good Γ c X) {scope : Scope} {own : List (Str × Nat)} (h : blkB c scope own = true) : BlkOk X.N X.env.scope scope own := by
  simp only [blkB, Bool.and_eq_true, List.all_eq_true, decide_eq_true_eq, Bool.or_eq_true, Bool.not_eq_true', decide_eq_false_iff_not] at h
  obtain ⟨⟨⟨⟨h1, h2⟩, h3⟩, h4⟩, h5⟩ := h
  rw [G.N, G.sc]
  refine ⟨h1, h2, h3, fun y hy e => ?_, fun y hy e => ?_⟩
  · rcases h4 y hy with z | z
    · exact absurd e z
    · exact z
  · rcases h5 y hy with z | z
    · rcases e with e | e <;> simp [e] at z
    · exact z
theorem je_bad {e : Expr} {t : TE} (h : PE X e t) : JE X dk e wBad := fun P fit => pe_weak h fun σ H Q ⟨τ, Hs, ρ, R, E, q, k⟩ => q.elim
theorem je_bad' {e : Expr} : JE X dk e wBad := fun P fit => ⟨fun pins s σ H Q I ⟨τ, Hs, ρ, R, E, q, k⟩ => q.elim⟩

theorem jt_bad' {e : Expr} : JT X dk e (fun _ _ => False) := fun P fit => ⟨fun pins s σ H Q I ⟨τ, Hs, ρ, R, E, q, k⟩ => q.elim⟩

/-! ### lists -/
inductive AllE (X : Cx) (dk : Option (Addr × Addr)) : List Expr → List W → Prop
  | nil : AllE X dk [] []
  | cons {e : Expr} {es : List Expr} {w : W} {ws : List W} : JE X dk e w → AllE X dk es ws → AllE X dk (e :: es) (w :: ws)
inductive AllT (X : Cx) (dk : Option (Addr × Addr)) : List Expr → List WT → Prop
  | nil : AllT X dk [] []
  | cons {e : Expr} {es : List Expr} {w : WT} {ws : List WT} : JT X dk e w → AllT X dk es ws → AllT X dk (e :: es) (w :: ws)
theorem AllE.ja {es : List Expr} {ws : List W} (h : AllE X dk es ws) : es.all noStar = true → JA X dk es (wisW ws) := by
  induction h with
  | nil => intro _; exact ja_nil
  | cons h1 _ ih =>
    intro hs
    rw [List.all_cons, Bool.and_eq_true] at hs
    exact ja_cons h1 (ih hs.2) (star_cons hs.1)
theorem AllE.jk : ∀ {kws : List Keyword} {ws : List W}, AllE X dk (kws.map (·.value)) ws → JK X dk kws (wisW ws)
  | [], _, h => by cases h; exact jk_nil
  | ⟨nm, e, p⟩ :: kws, _, h => by
    cases h with
    | cons h1 h2 => exact jk_cons h1 (AllE.jk h2)
theorem AllE.and {e : Expr} {es : List Expr} {ws : List W} {pos : Pos} (h : AllE X dk (e :: es) ws) : JE X dk (.BoolOp .And (e :: es) pos) (andW ws) := by
  induction es generalizing e ws with
  | nil =>
    cases h with
    | cons h1 h2 =>
      cases h2
      exact je_one h1
  | cons e2 es ih =>
    cases h with
    | cons h1 h2 =>
      have h3 := ih h2
      cases h2
      exact je_and h1 h3
theorem AllE.or {e : Expr} {es : List Expr} {ws : List W} {pos : Pos} (h : AllE X dk (e :: es) ws) : JE X dk (.BoolOp .Or (e :: es) pos) (orW ws) := by
  induction es generalizing e ws with
  | nil =>
    cases h with
    | cons h1 h2 =>
      cases h2
      exact je_one h1
  | cons e2 es ih =>
    cases h with
    | cons h1 h2 =>
      have h3 := ih h2
      cases h2
      exact je_or h1 h3
theorem AllT.and {e : Expr} {es : List Expr} {ws : List WT} {pos : Pos} (h : AllT X dk (e :: es) ws) : JW X dk (.BoolOp .And (e :: es) pos) (andT ws) := by
  induction es generalizing e ws with
  | nil =>
    cases h with
    | cons h1 h2 =>
      cases h2
      exact jw_and1 h1
  | cons e2 es ih =>
    cases h with
    | cons h1 h2 =>
      have h3 := ih h2
      cases h2
      exact jw_and h1 h3
theorem AllT.or {e : Expr} {es : List Expr} {ws : List WT} {pos : Pos} (h : AllT X dk (e :: es) ws) : JW X dk (.BoolOp .Or (e :: es) pos) (orT ws) := by
  induction es generalizing e ws with
  | nil =>
    cases h with
    | cons h1 h2 =>
      cases h2
      exact jw_or1 h1
  | cons e2 es ih =>
    cases h with
    | cons h1 h2 =>
      have h3 := ih h2
      cases h2
      exact jw_or h1 h3
theorem AllT.ifs {es : List Expr} {ws : List WT} (h : AllT X dk es ws) : es.length ≤ 1 → JTs X dk es (ifsW ws) := by
  intro hl
  cases h with
  | nil => exact jts_nil
  | cons h1 h2 =>
    cases h2 with
    | nil => exact jts_one h1
    | cons _ _ => simp at hl

/-! ### targets -/
theorem each_ok {c : Sx} : ∀ {ts : List Tg} {es : List Expr} {env : Env}, chkGs c ts es = true → (assignEach es env).length = ts.length ∧ (assignEach es env).findIdx? (·.1) = none ∧ ∀ e r, es = e :: r → (assignEach (e :: r) env).map (·.2) = assign e env :: (assignEach r env).map (·.2)
  | [], [], _, _ => ⟨rfl, rfl, fun _ _ h => nomatch h⟩
  | t :: ts, e :: es, env, h => by
    simp only [chkGs, Bool.and_eq_true] at h
    obtain ⟨i1, i2, _⟩ := each_ok (env := env) h.2
    have he : assignEach (e :: es) env = (false, assign e env) :: assignEach es env := by
      cases t with
      | nm i => cases e <;> first | rfl | simp [chkG] at h
      | tup ts => cases e <;> first | rfl | simp [chkG] at h
    rw [he]
    refine ⟨by simp [i1], by simp [List.findIdx?_cons, i2], fun e' r hr => ?_⟩
    cases hr
    rw [he]; rfl
  | [], _ :: _, _, h => by simp [chkGs] at h
  | _ :: _, [], _, h => by simp [chkGs] at h
mutual
theorem chkG_ok (G : Good Γ c X) : ∀ (t : Tg) (x : Expr), chkG c t x = true → JG X dk x t.ixs t.set
  | .nm i, x, h => by
    cases x <;> first | (simp [chkG] at h; done) | skip
    simp only [chkG] at h
    obtain ⟨h1, h2, h3⟩ := loc_ok G h
    exact jg_nm (by rw [G.N]; exact G.nd) h1 h2 h3
  | .tup ts, x, h => by
    cases x <;> first | (simp [chkG] at h; done) | skip
    simp only [chkG] at h
    obtain ⟨h1, h2, _⟩ := each_ok (env := X.env) h
    exact jg_tup G.calm (chkGs_ok G ts _ h) h1 h2
theorem chkGs_ok (G : Good Γ c X) : ∀ (ts : List Tg) (xs : List Expr), chkGs c ts xs = true → JGs X dk xs (Tg.ixsL ts) (Tg.sets ts)
  | [], [], _ => jgs_nil
  | t :: ts, x :: xs, h => by
    obtain ⟨_, _, h3⟩ := each_ok (env := X.env) h
    simp only [chkGs, Bool.and_eq_true] at h
    exact jgs_cons (chkG_ok G t x h.1) (chkGs_ok G ts xs h.2) (h3 _ _ rfl)
  | [], _ :: _, h => by simp [chkGs] at h
  | _ :: _, [], h => by simp [chkGs] at h
end

/-! ### built-in functions -/
theorem fn_ok (ok : Γ.Ok) (G : Good Γ c X) (f : Fn) {e : Expr} {es : List Expr} {t : WA} {p pos : Pos} (hg : Gl X f.nm) (ha : JA X dk (e :: es) t) (hs : (e :: es).all noStar = true) : JE X dk (.Call (.Name f.nm p) (e :: es) [] pos) (wN t f.g) := by
  have hs' := hs
  rw [List.all_cons, Bool.and_eq_true] at hs'
  have hm : X.mg f.nm = none := mg_none ok G (by cases f <;> decide +kernel)
  have h1 := star_cons (es := es) (env := X.env) hs'.1
  have h2 := star_plain (pos := pos) (env := X.env) hs'.2
  have hu := G.hu
  have cB : ∀ {id : String} {g : FN}, bootBuiltins f.nm = some (.builtin id) → Bfn X (.builtin id) g → JE X dk (.Call (.Name f.nm p) (e :: es) [] pos) (wN t g) := fun {id g} hb hf =>
    je_fn hf ha fun r ta hr hp => pe_callB hr hg hm hb hp (by cases f <;> decide) (by cases f <;> decide) h1 h2
  have cT : ∀ {id : String} {g : FN}, bootBuiltins f.nm = some (.type id) → Bfn X (.type id) g → JE X dk (.Call (.Name f.nm p) (e :: es) [] pos) (wN t g) := fun {id g} hb hf =>
    je_fn hf ha fun r ta hr hp => pe_callTy hr hg hm hb hp (by cases f <;> decide) (by cases f <;> decide) h1 h2
  cases f with
  | len => exact cB rfl b_len
  | repr => exact cB rfl (b_repr hu G.gd)
  | tuple => exact cT rfl b_tuple
  | list => exact cT rfl b_list
  | sorted => exact cB rfl (b_sorted hu)
  | sum => exact cB rfl (b_sum G.calm)
  | max => exact cB rfl (b_maxA G.calm)
  | min => exact cB rfl (b_minA G.calm)
  | all => exact cB rfl (b_all G.calm)
  | any => exact cB rfl (b_any G.calm)
  | int => exact cT rfl b_int
  | str => exact cT rfl b_str
  | dict => exact cT rfl (b_dict G.calm)
theorem both {m : Bool} {e : Expr} {w : W} (h : JE X dk e w) (hp : plainT e = true) : (m = false → JE X dk e (pl w).1) ∧ (m = true → JT X dk e (pl w).2) := ⟨fun _ => h, fun _ => jt_tv h hp⟩
theorem only {m : Bool} {e : Expr} {w : W} (h : JE X dk e w) (hp : m = false) : (m = false → JE X dk e (pl w).1) ∧ (m = true → JT X dk e (pl w).2) := ⟨fun _ => h, fun z => by rw [hp] at z; cases z⟩
theorem chks_len {m : Bool} {c : Sx} : ∀ {es : List IE} {xs : List Expr}, chks m c es xs = true → es.length = xs.length
  | [], [], _ => rfl
  | e :: es, x :: xs, h => by simp only [chks, Bool.and_eq_true] at h; simp [chks_len h.2]
  | [], _ :: _, h => by simp [chks] at h
  | _ :: _, [], h => by simp [chks] at h
end
theorem chkSt_star {c : Sx} {pos : Pos} {env : Env} : ∀ {es : List IE} {zs : List Expr}, chkSt c es zs = true → (backTo pos (starEach zs env)).any (·.1) = true
  | [], zs, h => by simp [chkSt] at h
  | [e], zs, h => by
    unfold chkSt at h
    split at h
    · rfl
    · rename_i e; cases e
    · cases h
  | e :: e2 :: es, [], h => by simp [chkSt] at h
  | e :: e2 :: es, z :: zs, h => by
    simp only [chkSt, Bool.and_eq_true] at h
    rw [star_cons h.1]
    show (false || (backTo pos (starEach zs env)).any (·.1)) = true
    rw [chkSt_star h.2.2]; rfl
theorem chkSt_one {c : Sx} {pos : Pos} {env : Env} {e : IE} {es : List IE} {z : Expr} {zs : List Expr} (h : chkSt c (e :: es) (z :: zs) = true) (hn : noStar z = true) : (backTo pos (starEach zs env)).any (·.1) = true := by
  cases es with
  | nil =>
    unfold chkSt at h
    split at h
    · rename_i q1 q2; cases q2; simp [noStar] at hn
    · rename_i q1 q2; cases q1
    · cases h
  | cons e2 es =>
    simp only [chkSt, Bool.and_eq_true] at h
    exact chkSt_star h.2.2
section
variable {Γ : Gam}
mutual
theorem chk_ok (ok : Γ.Ok) {c : Sx} {X : Cx} (G : Good Γ c X) {m : Bool} (e : IE) {x : Expr} (h : chk m c e x = true) : (m = false → JE X Γ.dk x (e.sm Γ.F Γ.dk).1) ∧ (m = true → JT X Γ.dk x (e.sm Γ.F Γ.dk).2) := by
  have hu := G.hu
  unfold chk at h
  split at h
  all_goals try simp only [IE.sm]
  · exact only je_non (by simpa using h)
  · simp only [Bool.and_eq_true, Bool.not_eq_true', decide_eq_true_eq] at h
    obtain ⟨hm, rfl⟩ := h
    exact only je_bl hm
  · simp only [Bool.and_eq_true, Bool.not_eq_true', decide_eq_true_eq] at h
    obtain ⟨hm, rfl⟩ := h
    exact only je_int hm
  · simp only [Bool.and_eq_true, Bool.not_eq_true', decide_eq_true_eq] at h
    obtain ⟨hm, rfl⟩ := h
    exact only je_str hm
  · obtain ⟨h1, h2, h3, h4⟩ := vis_ok G h
    exact both (je_var h1 h2 h3 h4) rfl
  · simp only [Bool.and_eq_true, Bool.not_eq_true', decide_eq_true_eq] at h
    obtain ⟨⟨rfl, hg⟩, hd⟩ := h
    refine both ?_ rfl
    split
    · rename_i hv
      exact je_glo G (ok.gv _ _ hv) (gl_ok G hg) hd
    · exact je_bad'
  · simp only [Bool.and_eq_true, decide_eq_true_eq] at h
    obtain ⟨rfl, h1⟩ := h
    exact both (je_rev ((chk_ok ok G _ h1).1 rfl)) rfl
  · simp only [Bool.and_eq_true, decide_eq_true_eq] at h
    obtain ⟨⟨⟨⟨⟨rfl, rfl⟩, hg⟩, hg2⟩, hs⟩, h1⟩ := h
    exact both (je_sset G.calm hu (gl_ok G hg) (mg_none ok G (by decide +kernel)) (gl_ok G hg2) (mg_none ok G (by decide +kernel)) ((chk_ok ok G _ h1).1 rfl) (star_cons hs)) rfl
  · simp only [Bool.and_eq_true, Bool.not_eq_true', decide_eq_true_eq] at h
    obtain ⟨⟨rfl, hg⟩, hd⟩ := h
    refine both ?_ rfl
    split
    · rename_i hf
      exact je_call0 G (ok.fn _ _ hf) (gl_ok G hg) hd
    · exact je_bad'
  · simp only [Bool.and_eq_true, decide_eq_true_eq] at h
    obtain ⟨rfl, h1, h2⟩ := h
    exact both (je_bin ((chk_ok ok G _ h1).1 rfl) ((chk_ok ok G _ h2).1 rfl)) rfl
  · simp only [Bool.and_eq_true, Bool.not_eq_true', decide_eq_true_eq] at h
    obtain ⟨⟨rfl, hm⟩, h1, h2⟩ := h
    exact ⟨fun _ => je_cmp hu ((chk_ok ok G _ h1).1 rfl) ((chk_ok ok G _ h2).1 rfl) hm, fun _ => jt_cmp hu ((chk_ok ok G _ h1).1 rfl) ((chk_ok ok G _ h2).1 rfl) hm⟩
  · simp only [Bool.and_eq_true, Bool.not_eq_true', decide_eq_true_eq] at h
    obtain ⟨⟨⟨rfl, rfl⟩, hm⟩, h1, h2, h3⟩ := h
    exact ⟨fun _ => je_chain hu ((chk_ok ok G _ h1).1 rfl) ((chk_ok ok G _ h2).1 rfl) ((chk_ok ok G _ h3).1 rfl) hm, fun _ => jt_chain hu ((chk_ok ok G _ h1).1 rfl) ((chk_ok ok G _ h2).1 rfl) ((chk_ok ok G _ h3).1 rfl) hm⟩
  · simp only [Bool.and_eq_true, Bool.not_eq_true'] at h
    exact only (je_neg ((chk_ok ok G _ h.2).1 rfl)) h.1
  · have := chk_ok ok G _ h
    cases m with
    | false => exact ⟨fun _ => je_not (this.1 rfl), fun z => by cases z⟩
    | true => exact ⟨(fun z => by cases z), fun _ => jt_not (this.2 rfl)⟩
  · rename_i es xs pos
    simp only [Bool.and_eq_true] at h
    obtain ⟨h0, h⟩ := h
    have hs := chks_ok ok G _ h
    have hl := chks_len h
    cases es with
    | nil => simp at h0
    | cons e es =>
      cases xs with
      | nil => simp at hl
      | cons x xs => exact ⟨fun z => (hs.1 z).and, fun z => jt_of (hs.2 z).and⟩
  · rename_i es xs pos
    simp only [Bool.and_eq_true] at h
    obtain ⟨h0, h⟩ := h
    have hs := chks_ok ok G _ h
    have hl := chks_len h
    cases es with
    | nil => simp at h0
    | cons e es =>
      cases xs with
      | nil => simp at hl
      | cons x xs => exact ⟨fun z => (hs.1 z).or, fun z => jt_of (hs.2 z).or⟩
  · simp only [Bool.and_eq_true, Bool.not_eq_true'] at h
    obtain ⟨hm, h1, h2, h3⟩ := h
    exact only (je_if ((chk_ok ok G _ h1).2 rfl) ((chk_ok ok G _ h2).1 rfl) ((chk_ok ok G _ h3).1 rfl)) hm
  · simp only [Bool.and_eq_true] at h
    obtain ⟨h0, h1, h2⟩ := h
    exact both (je_ix hu ((chk_ok ok G _ h1).1 rfl) ((chk_ok ok G _ h2).1 rfl) (plainIx_ok h0)) rfl
  · simp only [Bool.and_eq_true] at h
    obtain ⟨h1, h2, h3⟩ := h
    exact both (je_sl ((chk_ok ok G _ h1).1 rfl) (chko_ok ok G _ h2) (chko_ok ok G _ h3)) rfl
  · simp only [Bool.and_eq_true, Bool.not_eq_true'] at h
    obtain ⟨hm, h1, h2⟩ := h
    exact only (je_tup (((chks_ok ok G _ h2).1 rfl).ja h1)) hm
  · simp only [Bool.and_eq_true, Bool.not_eq_true'] at h
    obtain ⟨hm, h1, h2⟩ := h
    exact only (je_lst (((chks_ok ok G _ h2).1 rfl).ja h1)) hm
  · simp only [Bool.and_eq_true, Bool.not_eq_true', decide_eq_true_eq] at h
    obtain ⟨⟨⟨⟨rfl, hg⟩, hd⟩, hs⟩, h1⟩ := h
    have ha := ((chks_ok ok G _ h1).1 rfl).ja hs
    refine both ?_ rfl
    split
    · rename_i hf
      rw [List.all_cons, Bool.and_eq_true] at hs
      exact je_call G (ok.fn _ _ hf) (gl_ok G hg) hd ha (star_cons hs.1) (star_plain hs.2)
    · exact je_bad'
  · simp only [Bool.and_eq_true, Bool.not_eq_true', decide_eq_true_eq] at h
    obtain ⟨⟨⟨⟨rfl, hg⟩, hd⟩, hn⟩, h1⟩ := h
    have ha := ((chks_ok ok G _ h1).1 rfl).jk
    refine both ?_ rfl
    split
    · rename_i hf
      exact je_kcall G (ok.kw _ _ _ hf) (gl_ok G hg) hd ha hn
    · exact je_bad'
  · simp only [Bool.and_eq_true, Bool.not_eq_true', decide_eq_true_eq] at h
    obtain ⟨⟨⟨rfl, hg⟩, hs⟩, h1⟩ := h
    exact both (fn_ok ok G _ (gl_ok G hg) (((chks_ok ok G _ h1).1 rfl).ja hs) hs) rfl
  · simp only [Bool.and_eq_true, Bool.not_eq_true', decide_eq_true_eq] at h
    obtain ⟨⟨⟨⟨⟨rfl, rfl⟩, hg⟩, hg2⟩, hs⟩, h1⟩ := h
    rename_i t _ _ _ _ _
    exact both (je_isi t (gl_ok G hg) (mg_none ok G (by decide +kernel)) (gl_ok G hg2) (mg_none ok G (by cases t <;> decide +kernel)) ((chk_ok ok G _ h1).1 rfl) hs) rfl
  · simp only [Bool.and_eq_true, Bool.not_eq_true', decide_eq_true_eq] at h
    obtain ⟨⟨⟨rfl, hb⟩, hl⟩, h1⟩ := h
    exact both (je_mth0 _ ((chk_ok ok G _ h1).1 rfl) hb hl) rfl
  · simp only [Bool.and_eq_true, Bool.not_eq_true', decide_eq_true_eq] at h
    obtain ⟨⟨⟨⟨⟨rfl, hb⟩, hl⟩, hs⟩, hn⟩, h1, h2⟩ := h
    exact both (je_mth _ ((chk_ok ok G _ h1).1 rfl) (((chks_ok ok G _ h2).1 rfl).ja hs) hb hl hs hn) rfl
  · simp only [Bool.and_eq_true, Bool.not_eq_true', decide_eq_true_eq] at h
    obtain ⟨⟨⟨⟨rfl, hv⟩, hl⟩, hs⟩, h1⟩ := h
    obtain ⟨v1, v2, v3, v4⟩ := vis_ok G hv
    exact both (je_app v1 v2 v3 v4 ((chk_ok ok G _ h1).1 rfl) hl hs) rfl
  · simp only [Bool.and_eq_true, Bool.not_eq_true', decide_eq_true_eq] at h
    obtain ⟨⟨⟨⟨rfl, hv⟩, hl⟩, hs⟩, h1⟩ := h
    obtain ⟨v1, v2, v3, v4⟩ := vis_ok G hv
    exact both (je_ext v1 v2 v3 v4 ((chk_ok ok G _ h1).1 rfl) hl hs) rfl
  · simp only [Bool.and_eq_true, Bool.not_eq_true', decide_eq_true_eq] at h
    obtain ⟨⟨rfl, hv⟩, hl⟩ := h
    obtain ⟨v1, v2, v3, v4⟩ := vis_ok G hv
    exact both (je_pop v1 v2 v3 v4 hl) rfl
  · exact only je_dct0 (by simpa using h)
  · simp only [Bool.and_eq_true, Bool.not_eq_true', decide_eq_true_eq] at h
    obtain ⟨⟨hm, h15⟩, h1⟩ := h
    exact only (je_dct (chkD_ok ok G _ h1) (fun z => by rw [z] at h1; simp [chkD] at h1) h15) hm
  · simp only [Bool.and_eq_true, Bool.not_eq_true', decide_eq_true_eq, List.all_eq_true] at h
    obtain ⟨⟨⟨⟨⟨⟨hm, h1⟩, hb⟩, hw⟩, hn⟩, hg⟩, hi, ht, he⟩ := h
    exact only (je_lc G (chkI_ok ok G _ hi) (blk_ok G hb) hw (fun X' G' => chkG_ok G' _ _ hg) (fun X' G' => ((chks_ok ok G' _ ht).2 rfl).ifs h1) (fun X' G' => (chk_ok ok G' _ he).1 rfl) (fold_ok hn _)) hm
  · simp only [Bool.and_eq_true, Bool.not_eq_true', decide_eq_true_eq, List.all_eq_true] at h
    obtain ⟨⟨⟨⟨⟨⟨hm, h1⟩, hb⟩, hw⟩, hn⟩, hg⟩, hi, ht, hx, he⟩ := h
    exact only (je_dc G (chkI_ok ok G _ hi) (blk_ok G hb) hw (fun X' G' => chkG_ok G' _ _ hg) (fun X' G' => ((chks_ok ok G' _ ht).2 rfl).ifs h1) (fun X' G' => (chk_ok ok G' _ hx).1 rfl) (fun X' G' => (chk_ok ok G' _ he).1 rfl) (fold_ok hn _)) hm
  · simp only [Bool.and_eq_true, Bool.not_eq_true', decide_eq_true_eq] at h
    obtain ⟨⟨⟨⟨rfl, hg⟩, hd⟩, hs⟩, h1⟩ := h
    have ha := chkSt_ok ok G _ h1
    refine both ?_ rfl
    split
    · rename_i hf
      exact je_callS G (ok.fn _ _ hf) (gl_ok G hg) hd ha (star_cons hs) (chkSt_one h1 hs)
    · exact je_bad'
  · simp only [Bool.and_eq_true, Bool.not_eq_true', decide_eq_true_eq] at h
    obtain ⟨⟨⟨⟨⟨rfl, rfl⟩, hg⟩, hd⟩, hm⟩, h1⟩ := h
    split
    · rename_i hf
      exact ⟨fun _ => je_kin G (ok.kd _ _ hf) (gl_ok G hg) hd ((chk_ok ok G _ h1).1 rfl) hm, fun _ => jt_kin G (ok.kd _ _ hf) (gl_ok G hg) hd ((chk_ok ok G _ h1).1 rfl) hm⟩
    · exact ⟨fun _ => je_bad', fun _ => jt_bad'⟩
  · cases h
termination_by sizeOf e
theorem chkSt_ok (ok : Γ.Ok) {c : Sx} {X : Cx} (G : Good Γ c X) (es : List IE) {xs : List Expr} (h : chkSt c es xs = true) : JA X Γ.dk xs (wisWS ((IE.sms Γ.F Γ.dk es).map (·.1))) := by
  unfold chkSt at h
  split at h
  · exact ja_star ((chk_ok ok G _ h).1 rfl)
  · simp only [Bool.and_eq_true] at h
    obtain ⟨hs, h1, h2⟩ := h
    exact ja_cons ((chk_ok ok G _ h1).1 rfl) (chkSt_ok ok G _ h2) (star_cons hs)
  · cases h
termination_by sizeOf es
theorem chks_ok (ok : Γ.Ok) {c : Sx} {X : Cx} (G : Good Γ c X) {m : Bool} (es : List IE) {xs : List Expr} (h : chks m c es xs = true) : (m = false → AllE X Γ.dk xs ((IE.sms Γ.F Γ.dk es).map (·.1))) ∧ (m = true → AllT X Γ.dk xs ((IE.sms Γ.F Γ.dk es).map (·.2))) := by
  unfold chks at h
  split at h
  · exact ⟨fun _ => .nil, fun _ => .nil⟩
  · simp only [Bool.and_eq_true] at h
    obtain ⟨h1, h2⟩ := h
    have a := chk_ok ok G _ h1
    have b := chks_ok ok G _ h2
    exact ⟨fun z => .cons (a.1 z) (b.1 z), fun z => .cons (a.2 z) (b.2 z)⟩
  · cases h
termination_by sizeOf es
theorem chko_ok (ok : Γ.Ok) {c : Sx} {X : Cx} (G : Good Γ c X) (o : Option IE) {x : Option Expr} (h : chko c o x = true) : JO X Γ.dk x (IE.smo Γ.F Γ.dk o) := by
  unfold chko at h
  split at h
  · exact jo_no
  · exact jo_e ((chk_ok ok G _ h).1 rfl)
  · cases h
termination_by sizeOf o
theorem chkD_ok (ok : Γ.Ok) {c : Sx} {X : Cx} (G : Good Γ c X) (es : List IE) {ks : List (Option Expr)} {vs : List Expr} (h : chkD c es ks vs = true) : JPs X Γ.dk ks vs (prs ((IE.sms Γ.F Γ.dk es).map (·.1))) := by
  unfold chkD at h
  split at h
  · exact .nil
  · simp only [Bool.and_eq_true] at h
    obtain ⟨h1, h2, h3⟩ := h
    exact .cons ((chk_ok ok G _ h1).1 rfl) ((chk_ok ok G _ h2).1 rfl) (chkD_ok ok G _ h3)
  · cases h
termination_by sizeOf es
theorem chkI_ok (ok : Γ.Ok) {c : Sx} {X : Cx} (G : Good Γ c X) {k : Nat} (es : List IE) {tg it : Expr} (h : chkI c k es tg it = true) : JI X Γ.dk tg it (srcW k ((IE.sms Γ.F Γ.dk es).map (·.1))) := by
  unfold chkI at h
  split at h
  · exact ji_seq ((chk_ok ok G _ h).1 rfl)
  · simp only [Bool.and_eq_true, decide_eq_true_eq] at h
    obtain ⟨⟨⟨rfl, hg⟩, hs⟩, h1⟩ := h
    exact ji_rng1 (gl_ok G hg) (mg_none ok G (by decide +kernel)) ((chk_ok ok G _ h1).1 rfl) (star_cons hs)
  · simp only [Bool.and_eq_true, decide_eq_true_eq] at h
    obtain ⟨⟨⟨⟨rfl, hg⟩, hs⟩, hs2⟩, h1, h2⟩ := h
    exact ji_rng2 (gl_ok G hg) (mg_none ok G (by decide +kernel)) ((chk_ok ok G _ h1).1 rfl) ((chk_ok ok G _ h2).1 rfl) (star_cons hs) (star_cons hs2)
  · simp only [Bool.and_eq_true, decide_eq_true_eq] at h
    obtain ⟨⟨⟨⟨⟨rfl, rfl⟩, hg⟩, hs⟩, hs2⟩, h1, h2⟩ := h
    exact ji_zs (gl_ok G hg) (mg_none ok G (by decide +kernel)) ((chk_ok ok G _ h1).1 rfl) ((chk_ok ok G _ h2).1 rfl) (star_cons hs) (star_cons hs2)
  · simp only [Bool.and_eq_true, decide_eq_true_eq] at h
    obtain ⟨⟨⟨rfl, hg⟩, hs⟩, h1⟩ := h
    exact ji_enT (gl_ok G hg) (mg_none ok G (by decide +kernel)) ((chk_ok ok G _ h1).1 rfl) (star_cons hs)
  · cases h
termination_by sizeOf es
end
end
end Pz

set_option maxRecDepth 100000
set_option maxHeartbeats 4000000
/-! Pz, part 15: statements, defs. -/
namespace Pz
open PySem L2 PySem.Spec PyProof.Rows

def noTup : Expr → Bool
  | .Tuple .. => false
  | _ => true
def isTup : Expr → Bool
  | .Tuple .. => true
  | _ => false
/-- stored by the comprehension itself -/
def swp (c : Sx) (x : Str) (px : Pos) : Expr → Bool
  | .ListComp _ _ s pos => decide (c.sc.names.lookup x = some .local) && (px.line == pos.line) && !(s.names.any fun (n, k) => n == x && (k == .local || k == .cell))
  | .DictComp _ _ _ s pos => decide (c.sc.names.lookup x = some .local) && (px.line == pos.line) && !(s.names.any fun (n, k) => n == x && (k == .local || k == .cell))
  | _ => false
/-- names to store, one of them a cell -/
def cellT (c : Sx) : Expr → Bool
  | .Tuple ts _ _ => ts.any fun
    | .Name x _ => decide (c.sc.names.lookup x ≠ some .local)
    | _ => false
  | _ => false
theorem filterMap_len {α β : Type} (f : α → Option β) : ∀ xs : List α, (xs.filterMap f).length ≤ xs.length ∧ ((∃ x ∈ xs, f x = none) → (xs.filterMap f).length < xs.length)
  | [] => ⟨Nat.le_refl _, fun ⟨_, h, _⟩ => absurd h (by simp)⟩
  | x :: xs => by
    obtain ⟨h1, h2⟩ := filterMap_len f xs
    rw [List.filterMap_cons]
    cases e : f x with
    | none => exact ⟨Nat.le_succ_of_le h1, fun _ => Nat.lt_succ_of_le h1⟩
    | some y =>
      refine ⟨Nat.succ_le_succ h1, fun ⟨z, hz, ez⟩ => ?_⟩
      rcases List.mem_cons.mp hz with rfl | hz
      · rw [e] at ez; cases ez
      · exact Nat.succ_lt_succ (h2 ⟨z, hz, ez⟩)
def noDS : Expr → Bool
  | .SetComp .. => false
  | _ => true
def okKind (c : Sx) : Bool := decide (c.sc.kind = .function)
def parOk (xs : List (Str × Pos)) (vs : List Expr) : Bool := xs.all (fun p => p.2.line == (xs.head?.map (·.2.line)).getD 0) && decide ((xs.map (·.1)).Nodup) && vs.all noStar && !(vs.all (foldedForSure 8)) && !(vs.all (constantsAlone 8))
mutual
def chkS (c : Sx) : IS → Stmt → Bool
  | .set i e, .Assign [.Name x px] v _ => c.loc i x && okKind c && noDS v && chk false c e v
  | .unp tg e, .Assign [t] v _ => isTup t && (noTup v || cellT c t) && chkG c tg t && chk false c e v
  | .par [i, j] [a, b], .Assign [.Tuple [.Name x px, .Name y py] _ _] (.Tuple [v, w] _ _) _ => okKind c && decide (c.N[i]? = some x) && decide (c.N[j]? = some y) && decide (c.sc.names.lookup x = some .local) && decide (c.sc.names.lookup y = some .local) && decide (i ≠ j) && parOk [(x, px), (y, py)] [v, w] && (chk false c a v && chk false c b w)
  | .par [i, j, k] [a, b, d], .Assign [.Tuple [.Name x px, .Name y py, .Name z pz] _ _] (.Tuple [v, w, u] _ _) _ => okKind c && decide (c.N[i]? = some x) && decide (c.N[j]? = some y) && decide (c.N[k]? = some z) && decide (c.sc.names.lookup x = some .local) && decide (c.sc.names.lookup y = some .local) && decide (c.sc.names.lookup z = some .local) && decide (i ≠ j ∧ i ≠ k ∧ j ≠ k) && parOk [(x, px), (y, py), (z, pz)] [v, w, u] && (chk false c a v && (chk false c b w && chk false c d u))
  | .drop e, .Expr v _ => noComp v && chk false c e v
  | .ret e, .Return (some v) _ => chk false c e v
  | .retN, .Return none _ => true
  | .ite t a b, .If x p q _ => chk true c t x && (chkSs c a p && chkSs c b q)
  | .for_ tg k src b, .For t it body [] _ => noSet it && chkG c tg t && chkI c k src t it && chkSs c b body
  | .whl t b, .While x body [] _ => chk true c t x && chkSs c b body
  | .brk, .Break _ => true
  | .cnt, .Continue _ => true
  | .pass, .Pass _ => true
  | .rais, .Raise .. => true
  | .unps i j e, .Assign [.Tuple [.Name x _, .Starred (.Name y _) _] _ _] v _ => decide (i ≠ j) && c.loc i x && c.loc j y && noTup v && chk false c e v
  | _, _ => false
def chkSs (c : Sx) : List IS → List Stmt → Bool
  | [], [] => true
  | .frz _ :: r, xs => chkSs c r xs
  | .disp t w p b q r :: ss, .Assign [.Tuple [.Name xc p0, .Name xr p1] kk p2] (.Subscript (.Name t' _) (.Name xw p4) _) _ :: .Return (some (.BoolOp .And [.Compare (.Call (.Name l _) [.Name xp p7] [] _) [.Eq] [.Name xc2 p9] _, .Call (.Name xr2 pe) [.Name xb pc, .Starred (.Name xp2 pd) _] [] _] _)) _ :: xs =>
    decide (t = t') && c.gl t' && !(t' == "__debug__") && decide (l = "len") && c.gl l && decide (q ≠ r ∧ q ≠ p ∧ q ≠ b ∧ r ≠ p ∧ r ≠ b) && chkG c (.tup [.nm q, .nm r]) (.Tuple [.Name xc p0, .Name xr p1] kk p2) && c.vis w xw && c.vis p xp && c.vis q xc2 && c.vis b xb && c.vis p xp2 && c.vis r xr2 && !behindInMarks .Eq (.Name xc2 p9) && chkSs c ss xs
  | s :: r, x :: xs => chkS c s x && chkSs c r xs
  | _, _ => false
end
section
variable {Γ : Gam} {c : Sx} {X : Cx}
theorem kind_ok (G : Good Γ c X) (h : okKind c = true) : X.env.scope.kind = .function := by
  simp only [okKind, decide_eq_true_eq] at h
  rw [G.sc]; exact h
theorem bk_ok (G : Good Γ c X) (h : okKind c = true) : X.env.blockKind = .function := by
  unfold Env.blockKind
  rw [kind_ok G h]; rfl
/-- when the comprehension stores by itself -/
theorem swap_lc (G : Good Γ c X) (hk : okKind c = true) {x : Str} {px : Pos} {v : Expr} {l : Nat} (h : noDS v = true) : swapsWith v (some (.Name x px)) l X.env = pure (swp c x px v) := by
  have hb := bk_ok G hk
  have hkd : X.env.kindOf x = c.sc.names.lookup x := by unfold Env.kindOf; rw [G.sc]
  have e1 : (ScopeKind.function == ScopeKind.function) = true := rfl
  cases v <;> first | rfl | (simp [noDS] at h; done) | skip
  · unfold swapsWith
    simp only [hb, hkd, swp]
    show (pure _ : Sem Bool) = _
    rw [e1, Bool.true_and]
    congr 3
    exact Bool.eq_iff_iff.mpr (by simp)
  · unfold swapsWith
    simp only [hb, hkd, swp]
    show (pure _ : Sem Bool) = _
    rw [e1, Bool.true_and]
    congr 3
    exact Bool.eq_iff_iff.mpr (by simp)
/-- a slot's own object stays from now on -/
theorem js_frz {sts : List Stmt} {w : WS} {i : Nat} {dk : Option (Addr × Addr)} (h : JSs X dk sts w) : JSs X dk sts (wSeq (wFrz i) w) := fun P fit => pss_weak (h P fit) fun D σ H ⟨Hs, ρ, c, E, q, k1, k2, k3, k4⟩ => by
  have q : w (ρ.fz i) c := q
  have : ∃ Hs', Same Hs Hs' ∧ ER P Hs' H σ (ρ.fz i) := by
    by_cases z : ∃ b, ρ.v[i]? = some (some b)
    · obtain ⟨b, hb⟩ := z
      obtain ⟨v, h1, h2⟩ := E.slot i b hb
      obtain ⟨Hs', g, E', _⟩ := E.fz (i := i) (x := b.dat) h1 (by simp only [O.look, hb])
      exact ⟨Hs', g, E'⟩
    · rw [S.fz_no fun b hb => z ⟨b, hb⟩]
      exact ⟨Hs, Same.refl _, E⟩
  obtain ⟨Hs', g, E'⟩ := this
  exact ⟨Hs', _, c, E', q, fun σ' Hs2 H' ρ' g' => k1 σ' Hs2 H' ρ' (g.trans g'), fun σ' Hs2 H' ρ' v r g' => k2 σ' Hs2 H' ρ' v r (g.trans g'), fun σ' Hs2 H' ρ' g' => k3 σ' Hs2 H' ρ' (g.trans g'), fun σ' Hs2 H' ρ' g' => k4 σ' Hs2 H' ρ' (g.trans g')⟩
theorem js_rais {st : Stmt} {dk : Option (Addr × Addr)} : JS X dk st wRais := fun P fit => ⟨fun pins s σ H D I ⟨Hs, ρ, c, E, q, _⟩ => q.elim⟩
theorem star_no : ∀ {v : Expr}, noStar v = true → (match v with
    | .Starred .. => true
    | _ => false) = false := fun {v} h => by cases v <;> first | rfl | (simp [noStar] at h)
theorem par_ok2 (G : Good Γ c X) (hk : okKind c = true) {x y : Str} {px py pt pt2 : Pos} {v w : Expr} {kt k2 : Nat} (hx : c.sc.names.lookup x = some .local) (hy : c.sc.names.lookup y = some .local) (h : parOk [(x, px), (y, py)] [v, w] = true) :
    swappedStores [.Tuple [.Name x px, .Name y py] kt pt] (.Tuple [v, w] k2 pt2) X.env = pure (some [x, y]) := by
  have hb := bk_ok G hk
  have hkx : X.env.kindOf x = some .local := by unfold Env.kindOf; rw [G.sc]; exact hx
  have hky : X.env.kindOf y = some .local := by unfold Env.kindOf; rw [G.sc]; exact hy
  simp only [parOk, Bool.and_eq_true, Bool.not_eq_true', decide_eq_true_eq, List.all_cons, List.all_nil, Bool.and_true, List.map_cons, List.map_nil, List.head?_cons, Option.map_some, Option.getD_some] at h
  obtain ⟨⟨⟨⟨⟨h1, h2⟩, h3⟩, h4, h5⟩, h6⟩, h7⟩ := h
  have h2 : py.line = px.line := by simpa using h2
  have hne : x ≠ y := by
    have := (List.nodup_cons.mp h3).1
    simpa using this
  have hl : (px.line == px.line) = true := by simp
  have s1 := star_no h4
  have s2 := star_no h5
  unfold swappedStores
  simp [hb, hkx, hky, h2, s1, s2, h6, h7, Expr.pos, List.filterMap_cons, List.eraseDups_cons, hne, Ne.symm hne]
  intro z
  rcases z with z | z
  · exact absurd (s1.symm.trans z) (by decide)
  · exact absurd (s2.symm.trans z) (by decide)
theorem par_ok3 (G : Good Γ c X) (hk : okKind c = true) {x y z : Str} {px py pz pt pt2 : Pos} {v w u : Expr} {kt k2 : Nat} (hx : c.sc.names.lookup x = some .local) (hy : c.sc.names.lookup y = some .local) (hz : c.sc.names.lookup z = some .local) (h : parOk [(x, px), (y, py), (z, pz)] [v, w, u] = true) :
    swappedStores [.Tuple [.Name x px, .Name y py, .Name z pz] kt pt] (.Tuple [v, w, u] k2 pt2) X.env = pure (some [x, y, z]) := by
  have hb := bk_ok G hk
  have hkx : X.env.kindOf x = some .local := by unfold Env.kindOf; rw [G.sc]; exact hx
  have hky : X.env.kindOf y = some .local := by unfold Env.kindOf; rw [G.sc]; exact hy
  have hkz : X.env.kindOf z = some .local := by unfold Env.kindOf; rw [G.sc]; exact hz
  simp only [parOk, Bool.and_eq_true, Bool.not_eq_true', decide_eq_true_eq, List.all_cons, List.all_nil, Bool.and_true, List.map_cons, List.map_nil, List.head?_cons, Option.map_some, Option.getD_some] at h
  obtain ⟨⟨⟨⟨⟨h1, h2, h2'⟩, h3⟩, h4, h5, h5'⟩, h6⟩, h7⟩ := h
  have h2 : py.line = px.line := by simpa using h2
  have h2' : pz.line = px.line := by simpa using h2'
  have n1 := List.nodup_cons.mp h3
  have n2 := List.nodup_cons.mp n1.2
  have hxy : x ≠ y := fun e => n1.1 (by simp [e])
  have hxz : x ≠ z := fun e => n1.1 (by simp [e])
  have hyz : y ≠ z := fun e => n2.1 (by simp [e])
  have hl : (px.line == px.line) = true := by simp
  have s1 := star_no h4
  have s2 := star_no h5
  have s3 := star_no h5'
  unfold swappedStores
  simp [hb, hkx, hky, hkz, h2, h2', s1, s2, s3, h6, h7, Expr.pos, List.filterMap_cons, List.eraseDups_cons, hxy, hxz, hyz, Ne.symm hxy, Ne.symm hxz, Ne.symm hyz]
  intro z
  rcases z with z | z | z
  · exact absurd (s1.symm.trans z) (by decide)
  · exact absurd (s2.symm.trans z) (by decide)
  · exact absurd (s3.symm.trans z) (by decide)
theorem cell_ok (G : Good Γ c X) {ts : List Expr} {k : Nat} {p : Pos} (h : cellT c (.Tuple ts k p) = true) (v : Expr) : swappedStores [.Tuple ts k p] v X.env = pure none := by
  have hl : ∀ f : Expr → Option Str, (∀ x p, c.sc.names.lookup x ≠ some .local → f (.Name x p) = none) → (ts.filterMap f).length ≠ ts.length := fun f hf => by
    simp only [cellT, List.any_eq_true] at h
    obtain ⟨t, ht, hx⟩ := h
    refine Nat.ne_of_lt ((filterMap_len f ts).2 ⟨t, ht, ?_⟩)
    split at hx
    · exact hf _ _ (of_decide_eq_true hx)
    · cases hx
  cases v with
  | Tuple vs k2 p2 =>
    unfold swappedStores
    have h1 := hl (fun
      | .Name id pos => if X.env.kindOf id == some .local && pos.line == (ts.head?.map (·.pos.line)).getD 0 then some id else none
      | _ => none) (fun x p hx => by
        have hk : X.env.kindOf x = c.sc.names.lookup x := by unfold Env.kindOf; rw [G.sc]
        have : (X.env.kindOf x == some .local) = false := by rw [hk]; simpa using hx
        simp [this])
    show (if _ then (pure none : Sem (Option (List Str))) else _) = _
    split
    · rfl
    · show (if _ then (pure none : Sem (Option (List Str))) else _) = _
      split
      · rfl
      · show (if _ then (pure none : Sem (Option (List Str))) else _) = _
        rw [if_pos]
        simp only [Bool.or_eq_true, bne_iff_ne]
        exact .inl h1
  | _ => rfl
theorem lc_inv {m : Bool} {e : IE} {x : Expr} {gs : List Comprehension} {scope : Scope} {pos : Pos} (h : chk m c e (.ListComp x gs scope pos) = true) : ∃ elt tg k src ifs own tg' iter ifs', e = .lc elt tg k src ifs own ∧ gs = [⟨tg', iter, ifs', 0⟩] ∧
    (!m && decide (ifs'.length ≤ 1) && blkB c scope own && tg.ixs.all (fun j => decide (j ∈ own.map (·.2))) && noSet iter && chkG (c.blk scope) tg tg' && (chkI c k src tg' iter && (chks true (c.blk scope) ifs ifs' && chk false (c.blk scope) elt x))) = true := by
  generalize hy : Expr.ListComp x gs scope pos = y at h
  unfold chk at h
  split at h <;> first | (cases hy; done) | (cases h; done) | skip
  cases hy
  exact ⟨_, _, _, _, _, _, _, _, _, rfl, rfl, h⟩
theorem dc_inv {m : Bool} {e : IE} {x y : Expr} {gs : List Comprehension} {scope : Scope} {pos : Pos} (h : chk m c e (.DictComp x y gs scope pos) = true) : ∃ kx vx tg k src ifs own tg' iter ifs', e = .dc kx vx tg k src ifs own ∧ gs = [⟨tg', iter, ifs', 0⟩] ∧
    (!m && decide (ifs'.length ≤ 1) && blkB c scope own && tg.ixs.all (fun j => decide (j ∈ own.map (·.2))) && noSet iter && chkG (c.blk scope) tg tg' && (chkI c k src tg' iter && (chks true (c.blk scope) ifs ifs' && (chk false (c.blk scope) kx x && chk false (c.blk scope) vx y)))) = true := by
  generalize hy : Expr.DictComp x y gs scope pos = z at h
  unfold chk at h
  split at h <;> first | (cases hy; done) | (cases h; done) | skip
  cases hy
  exact ⟨_, _, _, _, _, _, _, _, _, _, rfl, rfl, h⟩
theorem jss_bad {dk : Option (Addr × Addr)} {xs : List Stmt} {u : WS} : JSs X dk xs (wSeq (fun _ _ => False) u) := fun P fit => ⟨fun pins s σ H D I ⟨Hs, ρ, k, E, q, _⟩ => q.elim⟩
mutual
theorem chkS_ok (ok : Γ.Ok) (G : Good Γ c X) (s : IS) {x : Stmt} (h : chkS c s x = true) : JS X Γ.dk x (s.sm Γ.F Γ.dk) := by
  have hN : X.N.Nodup := by rw [G.N]; exact G.nd
  unfold chkS at h
  split at h
  all_goals try simp only [IS.sm]
  · rename_i i e x px v p
    simp only [Bool.and_eq_true] at h
    obtain ⟨⟨⟨hl, hk⟩, hd⟩, h1⟩ := h
    obtain ⟨l1, l2, l3⟩ := loc_ok G hl
    have hs := swap_lc (l := p.line) (px := px) (x := x) G hk hd
    cases hb : swp c x px v with
    | false =>
      rw [hb] at hs
      exact js_set hN l1 l2 ((chk_ok ok G _ h1).1 rfl) hs l3
    | true =>
      rw [hb] at hs
      unfold swp at hb
      split at hb
      · simp only [Bool.and_eq_true, decide_eq_true_eq] at hb
        obtain ⟨elt, tg, k, src, ifs, own, tg', iter, ifs', rfl, rfl, h9⟩ := lc_inv h1
        simp only [Bool.and_eq_true, Bool.not_eq_true', decide_eq_true_eq, List.all_eq_true] at h9
        obtain ⟨⟨⟨⟨⟨⟨hm, h8⟩, hb'⟩, hw⟩, hn⟩, hg⟩, hi, ht, he⟩ := h9
        exact js_setLc G l1 (by rw [G.sc]; exact hb.1.1) hs (chkI_ok ok G _ hi) (blk_ok G hb') hw (fun X' G' => chkG_ok G' _ _ hg) (fun X' G' => ((chks_ok ok G' _ ht).2 rfl).ifs h8) (fun X' G' => (chk_ok ok G' _ he).1 rfl) (fold_ok hn _)
      · simp only [Bool.and_eq_true, decide_eq_true_eq] at hb
        obtain ⟨kx, vx, tg, k, src, ifs, own, tg', iter, ifs', rfl, rfl, h9⟩ := dc_inv h1
        simp only [Bool.and_eq_true, Bool.not_eq_true', decide_eq_true_eq, List.all_eq_true] at h9
        obtain ⟨⟨⟨⟨⟨⟨hm, h8⟩, hb'⟩, hw⟩, hn⟩, hg⟩, hi, ht, hx, he⟩ := h9
        exact js_setDc G l1 (by rw [G.sc]; exact hb.1.1) hs (chkI_ok ok G _ hi) (blk_ok G hb') hw (fun X' G' => chkG_ok G' _ _ hg) (fun X' G' => ((chks_ok ok G' _ ht).2 rfl).ifs h8) (fun X' G' => (chk_ok ok G' _ hx).1 rfl) (fun X' G' => (chk_ok ok G' _ he).1 rfl) (fold_ok hn _)
      · cases hb
  · simp only [Bool.and_eq_true] at h
    obtain ⟨⟨⟨ht, hv⟩, hg⟩, h1⟩ := h
    rename_i tg e t v p
    cases t <;> first | (simp [isTup] at ht; done) | skip
    refine js_unp (chkG_ok G _ _ hg) ((chk_ok ok G _ h1).1 rfl) ?_ ?_ rfl
    · cases v <;> rfl
    · rcases (Bool.or_eq_true _ _).mp hv with hv | hv
      · cases v <;> first | rfl | (simp [noTup] at hv)
      · exact cell_ok G hv v
  · simp only [Bool.and_eq_true, decide_eq_true_eq] at h
    obtain ⟨⟨⟨⟨⟨⟨⟨hk, hi⟩, hj⟩, hx⟩, hy⟩, hij⟩, hp⟩, h1, h2⟩ := h
    have hp' := hp
    simp only [parOk, Bool.and_eq_true, List.all_cons] at hp'
    refine js_par G (by rw [G.N]; exact hi) (by rw [G.N]; exact hj) hij (by rw [G.sc]; exact hx) (by rw [G.sc]; exact hy) ((chk_ok ok G _ h1).1 rfl) ((chk_ok ok G _ h2).1 rfl) (star_cons hp'.1.1.2.1) (star_cons hp'.1.1.2.2.1) (par_ok2 G hk hx hy hp) rfl
  · simp only [Bool.and_eq_true, decide_eq_true_eq] at h
    obtain ⟨⟨⟨⟨⟨⟨⟨⟨⟨hk, hi⟩, hj⟩, hl⟩, hx⟩, hy⟩, hz⟩, hij⟩, hp⟩, h1, h2, h3⟩ := h
    have hp' := hp
    simp only [parOk, Bool.and_eq_true, List.all_cons] at hp'
    refine js_par3 G (by rw [G.N]; exact hi) (by rw [G.N]; exact hj) (by rw [G.N]; exact hl) hij.1 hij.2.1 hij.2.2 (by rw [G.sc]; exact hx) (by rw [G.sc]; exact hy) (by rw [G.sc]; exact hz) ((chk_ok ok G _ h1).1 rfl) ((chk_ok ok G _ h2).1 rfl) ((chk_ok ok G _ h3).1 rfl) (star_cons hp'.1.1.2.1) (star_cons hp'.1.1.2.2.1) (star_cons hp'.1.1.2.2.2.1) (par_ok3 G hk hx hy hz hp) rfl
  · simp only [Bool.and_eq_true] at h
    exact js_drop ((chk_ok ok G _ h.2).1 rfl) (noComp_ok h.1 _ _ _)
  · exact js_ret ((chk_ok ok G _ h).1 rfl)
  · exact js_retN
  · simp only [Bool.and_eq_true] at h
    exact js_if ((chk_ok ok G _ h.1).2 rfl) (chkSs_ok ok G _ h.2.1) (chkSs_ok ok G _ h.2.2)
  · simp only [Bool.and_eq_true] at h
    obtain ⟨⟨⟨hn, hg⟩, hi⟩, hb⟩ := h
    exact js_for G (chkI_ok ok G _ hi) (chkG_ok G _ _ hg) (chkSs_ok ok G _ hb) (fold_ok hn _)
  · simp only [Bool.and_eq_true] at h
    exact js_while G ((chk_ok ok G _ h.1).2 rfl) (chkSs_ok ok G _ h.2)
  · exact js_brk
  · exact js_cnt
  · exact js_pass
  · exact js_rais
  · simp only [Bool.and_eq_true, decide_eq_true_eq] at h
    obtain ⟨⟨⟨⟨hij, hx⟩, hy⟩, hv⟩, h1⟩ := h
    obtain ⟨x1, x2, x3⟩ := loc_ok G hx
    obtain ⟨y1, y2, y3⟩ := loc_ok G hy
    rename_i v _
    refine js_unps G x1 y1 hij x2 y2 x3 y3 ((chk_ok ok G _ h1).1 rfl) ?_ ?_
    · cases v <;> rfl
    · cases v <;> first | rfl | (simp [noTup] at hv)
  · cases h
termination_by sizeOf s
theorem chkSs_ok (ok : Γ.Ok) (G : Good Γ c X) (ss : List IS) {xs : List Stmt} (h : chkSs c ss xs = true) : JSs X Γ.dk xs (IS.sms Γ.F Γ.dk ss) := by
  unfold chkSs at h
  split at h
  · exact js_nil
  · exact js_frz (chkSs_ok ok G _ h)
  · simp only [Bool.and_eq_true, Bool.not_eq_true', decide_eq_true_eq] at h
    obtain ⟨⟨⟨⟨⟨⟨⟨⟨⟨⟨⟨⟨⟨⟨rfl, ht⟩, htd⟩, rfl⟩, hl⟩, ⟨n1, n2, n3, n4, n5⟩⟩, hg⟩, vw⟩, vp⟩, vc⟩, vb⟩, vp2⟩, vr⟩, hm⟩, h1⟩ := h
    simp only [IS.sms, IS.sm]
    have jv : ∀ {i : Nat} {x : Str} {p : Pos}, c.vis i x = true → JE X Γ.dk (.Name x p) (wv i) := fun {i x p} h => by
      obtain ⟨h1, h2, h3, h4⟩ := vis_ok G h
      exact je_var h1 h2 h3 h4
    obtain ⟨r1, r2, r3, r4⟩ := vis_ok G vr
    have jr := chkSs_ok ok G _ h1
    split
    · rename_i hf
      exact js_disp ok G hf (gl_ok G ht) htd (gl_ok G hl) n1 n2 n3 n4 n5 (chkG_ok G _ _ hg) (jv vw) (jv vp) (jv vc) (jv vb) (jv vp2) r1 r2 r3 r4 hm jr
    · exact jss_bad
  · simp only [Bool.and_eq_true] at h
    exact js_cons (chkS_ok ok G _ h.1) (chkSs_ok ok G _ h.2)
  · cases h
termination_by sizeOf ss
end
end

/-! ### a def -/
/-- what is handed back, seen from outside -/
def Res.out (ρ : S) : Res → Option Res
  | .d x => some (.d x)
  | .l xs => some (.l xs)
  | .m ks xs => some (.m ks xs)
  | .p i => match ρ.v[i]? with
    | some (some (.d x)) => some (.d x)
    | some (some (.l xs)) => some (.l xs)
    | some (some (.m ks xs)) => some (.m ks xs)
    | _ => none
/-- the ends of a def -/
def retC (R : Res → Nat → Prop) : C where
  nx := fun ρ => R (.d .non) ρ.k
  rt := fun r ρ => ∃ r', r.out ρ = some r' ∧ R r' ρ.k
  bk := fun _ => False
  ct := fun _ => False
/-- the state at the entry -/
def ent (n : Nat) (ds : List D) (k : Nat) : S := ⟨ds.map (fun d => some (.d d)) ++ List.replicate (n - ds.length) none, k⟩
def Gam.at (Γ : Gam) (dk : Option (Addr × Addr)) : Gam := { Γ with dk := dk }
theorem Gam.Ok.at {Γ : Gam} (ok : Γ.Ok) (dk : Option (Addr × Addr)) : (Γ.at dk).Ok := ⟨fun x i h => ⟨(ok.fn x i h).ex⟩, fun x ks i h => ⟨(ok.kw x ks i h).ex⟩, ok.nb, fun x d h => ⟨(ok.gv x d h).ex⟩, fun x t h => (ok.kd x t h).up rfl rfl rfl rfl rfl (Nat.le_refl _)⟩
theorem ent_er {P : Pm} {Hs H : Hp} {N : List Str} {vs : List V} {ds : List D} {k : Nat} (hP : P.Hs0 = Hs ∧ P.H0 = H) (s : Same Hs H) (sy : Sys Hs) (hd : Dk P.dk Hs H k) (hr : RpL P.K Hs ds vs) : ER P Hs H (L2.start N vs) (ent N.length ds k) where
  sub := s
  grow := by rw [hP.1]; exact Same.refl _
  keep := fun b o e _ => by rw [hP.2] at e; exact e
  old := fun b _ h => by rw [hP.1] at h; exact h
  dk := hd
  dkin := fun b hb => by rw [hP.2]; obtain ⟨o, q⟩ := hd.there hb; rw [q]; exact fun z => by cases z
  len := by simp [L2.start, ent, hr.length]
  slot := fun i x e => by
    have e : (ds.map (fun d => some (B.d d)) ++ List.replicate (N.length - ds.length) none)[i]? = some (some x) := e
    by_cases hi : i < ds.length
    · rw [List.getElem?_append_left (by simpa using hi)] at e
      simp [hi] at e
      subst e
      obtain ⟨v, h1, h2⟩ := hr.get (i := i) (d := ds[i]) (by simp [hi])
      refine ⟨v, ?_, h2⟩
      unfold L2.start
      rw [List.getElem?_append_left (by rw [List.length_map, ← hr.length]; exact hi), List.getElem?_map, h1]
      rfl
    · rw [List.getElem?_append_right (by simpa using hi), List.getElem?_replicate] at e
      split at e <;> simp at e
  apart := fun i j x y v n e1 o1 e2 o2 => by
    have key : ∀ {i : Nat} {x : B}, (ent N.length ds k).v[i]? = some (some x) → x.own = false := fun {i x} e => by
      have e : (ds.map (fun d => some (B.d d)) ++ List.replicate (N.length - ds.length) none)[i]? = some (some x) := e
      by_cases hi : i < ds.length
      · rw [List.getElem?_append_left (by simpa using hi)] at e
        simp [hi] at e
        subst e; rfl
      · rw [List.getElem?_append_right (by simpa using hi), List.getElem?_replicate] at e
        split at e <;> simp at e
    rw [key e1] at o1; cases o1
  sys := by rw [hP.1]; exact sy
theorem out_rf {P : Pm} {Hs H : Hp} {σ : L2.St} {ρ : S} {v : V} {r r' : Res} (E : ER P Hs H σ ρ) (h : RR P Hs H σ ρ v r) (o : r.out ρ = some r') : RF P.K Hs P.H0 H v r' := by
  have own : ∀ {x : B}, Own P Hs H x v → x.own = true → ∀ r', (match x with
    | .d x => Res.d x
    | .l xs => .l xs
    | .m ks xs => .m ks xs) = r' → RF P.K Hs P.H0 H v r' := fun {x} h hx r' e => by
    subst e
    cases x with
    | d x => cases hx
    | l xs => obtain ⟨a, vs, rfl, h1, h2, h3, h4⟩ := h; exact ⟨a, vs, rfl, h2, h1, h3, h4⟩
    | m ks xs => obtain ⟨a, vs, rfl, h1, h2, h3, h5, h4⟩ := h; exact ⟨a, vs, rfl, h2, h1, h3, h5, h4⟩
  cases r with
  | d x => cases o; exact h
  | l xs => cases o; exact own (x := .l xs) h.1 rfl _ rfl
  | m ks xs => cases o; exact own (x := .m ks xs) h.1 rfl _ rfl
  | p i =>
    obtain ⟨h1, b, h2, h3⟩ := h
    obtain ⟨w, q1, q2⟩ := E.slot i b h2
    rw [h1] at q1; cases q1
    simp only [Res.out, h2] at o
    cases b with
    | d x => cases h3
    | l xs => cases o; exact own (x := .l xs) q2 rfl _ rfl
    | m ks xs => cases o; exact own (x := .m ks xs) q2 rfl _ rfl
/-- the body keeps the promise, in data -/
def Keeps (F : Fs) (N : List Str) (body : List IS) : FnI → Prop
  | .pu pf => ∀ ds R, pf ds R → IS.sms F none body (ent N.length ds 0) (retC fun r _ => R r)
  | .dk pf => ∀ p c ds k R, pf ds k R → IS.sms F (some (p, c)) body (ent N.length (.cst (.ref p) :: ds) k) (retC R)
section
variable {Γ : Gam} {x qual : Str} {st : Stmt} {f : Addr} {fd : FuncData} {N ps : List Str}
/-- THE RULE: a def keeps its promise -/
theorem def_ok (ok : Γ.Ok) (F : Fun Γ.K x qual st f fd) (Sc : FnScope N ps (defScope st)) (body : List IS) (i : FnI) (hl : i.Len ps.length) (hc : chkSs ⟨N, defScope st, fun _ => true⟩ body (defBody st) = true) (hk : Keeps Γ.F N body i) :
    FnZ Γ.P Γ.w Γ.K Γ.mg Γ.base CX0 (Γ.lv + 1) f fd ps (i.sp Γ.K) := by
  refine fnz_of F Sc (FnI.len hl) fun cdv A outer s H vs Q E hg hr hsp => ?_
  have good : ∀ dk, Good (Γ.at dk) ⟨N, defScope st, fun _ => true⟩ (cxOf CX0 Γ.P Γ.w Γ.K Γ.mg Γ.base N qual (defScope st) f cdv A outer s H E).nox := fun dk =>
    ⟨rfl, rfl, rfl, rfl, rfl, rfl, rfl, rfl, Sc.nd, rfl, hg, hr, PassesOwn.never⟩
  cases i with
  | pu pf =>
    obtain ⟨Hs, ds, R, s1, sy, h1, h2, k⟩ := hsp
    have J := chkSs_ok (ok.at none) (good none) body hc ⟨Γ.K, none, Hs, H⟩ ⟨rfl, rfl⟩
    refine ⟨_, J.nox, Hs, ent N.length ds 0, retC fun r _ => R r, ent_er ⟨rfl, rfl⟩ s1 sy trivial h1, hk ds R h2, fun σ' Hs' H' ρ' g E' h => ?_, fun σ' Hs' H' ρ' v r g E' rr ⟨r', ho, h⟩ => ?_, fun _ _ _ _ _ _ h => h.elim, fun _ _ _ _ _ _ h => h.elim⟩
    · exact k Hs' H' .non (.d .non) g E'.sub (fun b o e => E'.keep b o e (fun z => z)) (fun b h1 h2 => E'.old b h1 h2) rfl h
    · exact k Hs' H' v r' g E'.sub (fun b o e => E'.keep b o e (fun z => z)) (fun b h1 h2 => E'.old b h1 h2) (out_rf E' rr ho) h
  | dk pf =>
    obtain ⟨p, c, ws, k0, Hs, ds, R, rfl, s1, sy, hd, h1, h2, k⟩ := hsp
    have J := chkSs_ok (ok.at (some (p, c))) (good (some (p, c))) body hc ⟨Γ.K, some (p, c), Hs, H⟩ ⟨rfl, rfl⟩
    refine ⟨_, J.nox, Hs, ent N.length (.cst (.ref p) :: ds) k0, retC R, ent_er ⟨rfl, rfl⟩ s1 sy hd ⟨_, _, rfl, rfl, h1⟩, hk p c ds k0 R h2, fun σ' Hs' H' ρ' g E' h => ?_, fun σ' Hs' H' ρ' v r g E' rr ⟨r', ho, h⟩ => ?_, fun _ _ _ _ _ _ h => h.elim, fun _ _ _ _ _ _ h => h.elim⟩
    · exact k Hs' H' .non (.d .non) ρ'.k g E'.sub E'.dk (fun b o e n => E'.keep b o e n) (fun b h1 h2 => E'.old b h1 h2) rfl h
    · exact k Hs' H' v r' ρ'.k g E'.sub E'.dk (fun b o e n => E'.keep b o e n) (fun b h1 h2 => E'.old b h1 h2) (out_rf E' rr ho) h
end
end Pz

set_option maxRecDepth 100000
set_option maxHeartbeats 4000000
/-! Pz, part 16: the law's own def, the law's end. -/
namespace Pz
open PySem L2 PySem.Spec PyProof.Rows

/-- the deck is made -/
def spMk (K : PySem.W.Frag) : Sp := fun vs H Q _ => ∃ (a : Addr) (ns : List Int), vs = [.ref a] ∧ SqL K H a (ns.map V.int) ∧ ns.length ≤ 63 ∧
  ∀ (p c : Addr) (m : Int) (ns' : List Int) (H' : Hp), p ≠ c → H p = none → H c = none → H' p = some (.lst [.ref c, .int m, .int 0]) → H' c = some (.lst (ns'.map V.int)) → ns'.length ≤ 63 → Same H H' → Q (.ref p) H'
/-- the law: a list of at most 63 ints, True -/
def spLaw (K : PySem.W.Frag) : Sp := fun vs H Q _ => ∃ (a : Addr) (ns : List Int), vs = [.ref a] ∧ SqL K H a (ns.map V.int) ∧ ns.length ≤ 63 ∧ Sys H ∧ ∀ H', Q (.bl true) H'
/-- a def of one list that makes the deck -/
structure HasMk (Γ : Gam) (x : Str) : Prop where
  ex : ∃ (f : Addr) (fd : FuncData) (ps : List Str) (k : Nat), k ≤ Γ.lv ∧ FnZ Γ.P Γ.w Γ.K Γ.mg Γ.base CX0 k f fd ps (spMk Γ.K) ∧ Γ.mg x = some (.ref f) ∧ PySem.W.keepIn Γ.K (.ref f) = true ∧ Binds Γ.K fd ps []
/-- the first statement of the law's def: its deck -/
def chkMk (c : Sx) (dn : Str) : List Stmt → Option (List Stmt)
  | .Assign [.Name d _] (.Call (.Name f _) [.Name s _] [] _) _ :: rest => if decide (f = dn) && c.gl f && !(f == "__debug__") && c.vis 0 s && c.loc 1 d then some rest else none
  | _ => none
theorem law_ok {Γ : Gam} (ok : Γ.Ok) {x qual : Str} {st : Stmt} {f : Addr} {fd : FuncData} {N : List Str} {s0 dn : Str} (M : HasMk Γ dn) (F : Fun Γ.K x qual st f fd) (Sc : FnScope N [s0] (defScope st)) (hN : 2 ≤ N.length) (body : List IS)
    (hc : (match chkMk ⟨N, defScope st, fun _ => true⟩ dn (defBody st) with
      | some rest => chkSs ⟨N, defScope st, fun _ => true⟩ body rest
      | none => false) = true)
    (hk : ∀ p c a, IS.sms Γ.F (some (p, c)) body ⟨some (.d (.cst (.ref a))) :: some (.d (.cst (.ref p))) :: List.replicate (N.length - 2) none, 0⟩ (retC fun r _ => r = .d (.bl true))) :
    FnZ Γ.P Γ.w Γ.K Γ.mg Γ.base CX0 (Γ.lv + 1) f fd [s0] (spLaw Γ.K) := by
  refine fnz_of F Sc (fun vs H Q E h => by obtain ⟨a, ns, rfl, _⟩ := h; rfl) fun cdv A outer s H vs Q E hg hr hsp => ?_
  have good : ∀ dk, Good (Γ.at dk) ⟨N, defScope st, fun _ => true⟩ (cxOf CX0 Γ.P Γ.w Γ.K Γ.mg Γ.base N qual (defScope st) f cdv A outer s H E).nox := fun dk =>
    ⟨rfl, rfl, rfl, rfl, rfl, rfl, rfl, rfl, Sc.nd, rfl, hg, hr, PassesOwn.never⟩
  obtain ⟨a, ns, rfl, hS, hl, sy, k⟩ := hsp
  generalize hb : defBody st = B at hc
  unfold chkMk at hc
  split at hc <;> first | (cases hc; done) | skip
  rename_i rest hm
  split at hm <;> first | (cases hm; done) | skip
  rename_i d pd fn pf sv ps pc pa rest'
  split at hm <;> first | (cases hm; done) | skip
  rename_i hcond
  cases hm
  simp only [Bool.and_eq_true, Bool.not_eq_true', decide_eq_true_eq] at hcond
  obtain ⟨⟨⟨⟨rfl, c1⟩, c2⟩, c3⟩, c4⟩ := hcond
  obtain ⟨f', fd', ps', k', hk', Fm, hm', hK', hb'⟩ := M.ex
  have G0 := good none
  obtain ⟨v1, v2, v3, v4⟩ := vis_ok G0 c3
  obtain ⟨l1, l2, l3⟩ := loc_ok G0 c4
  have pcall : PE (cxOf CX0 Γ.P Γ.w Γ.K Γ.mg Γ.base N qual (defScope st) f cdv A outer s H E).nox (.Call (.Name fn pf) [.Name sv ps] [] pc) (fun σ H Q => (tCons _ tNil) σ H fun vs H1 => spMk Γ.K vs H1 Q fun _ _ _ => False) :=
    pe_callZ (E := fun _ _ _ => False) (Fm.mono hk') hg hr (gl_ok G0 c1) hm' hK' hb' (fun _ _ _ _ _ _ _ z => z.elim) (pa_cons (pe_var v1 v2 v3 v4) pa_nil (star_cons rfl)) c2 (star_cons rfl) rfl
  have prest : PSs (cxOf CX0 Γ.P Γ.w Γ.K Γ.mg Γ.base N qual (defScope st) f cdv A outer s H E).nox rest (fun D σ H => ∃ P : Pm, P.K = Γ.K ∧ liftS P (IS.sms Γ.F P.dk body) D σ H) := ⟨fun pins s' σ H' D I ⟨P, e, q⟩ =>
    (chkSs_ok (ok.at P.dk) (good P.dk) body hc P ⟨e, rfl⟩).run pins s' σ H' D I q⟩
  refine ⟨_, (pss_cons (ps_set Sc.nd l1 l2 pcall rfl l3) prest).nox, ?_⟩
  obtain ⟨n, hn⟩ : ∃ n, N.length = n + 2 := ⟨N.length - 2, by omega⟩
  have es : L2.start N [.ref a] = some (.ref a) :: none :: List.replicate n none := by
    unfold L2.start
    rw [List.length_singleton, hn, show n + 2 - 1 = n + 1 by omega, List.replicate_succ]; rfl
  rw [es]
  refine ⟨.ref a, rfl, a, ns, rfl, hS, hl, fun p c m ns' H' hpc hp hcn h1 h2 h3 s1 => ?_⟩
  have hk' := hk p c a
  rw [hn, show n + 2 - 2 = n by omega] at hk'
  obtain ⟨om, φ, hom⟩ := sy
  have np : p ≠ sysModules := fun z => by rw [z, hom] at hp; cases hp
  have nc : c ≠ sysModules := fun z => by rw [z, hom] at hcn; cases hcn
  refine ⟨⟨Γ.K, some (p, c), fun b => if b = sysModules then H b else none, H'⟩, rfl, (fun b => if b = sysModules then H b else none), _, retC fun r _ => r = .d (.bl true), ⟨fun b o e => ?_, Same.refl _, fun b o e _ => e, fun b _ h => h, ⟨hpc, if_neg np, if_neg nc, m, ns', h1, h2, h3⟩, fun b hb => ?_, ?_, fun i x e => ?_, fun i j x y v nij e1 o1 e2 o2 => ?_, ⟨om, φ, (show (if sysModules = sysModules then H sysModules else none) = _ by rw [if_pos rfl]; exact hom)⟩⟩, hk', fun σ' Hs' H2 ρ' g E' h => ?_, fun σ' Hs' H2 ρ' v r g E' rr ⟨r', ho, h⟩ => ?_, fun _ _ _ _ _ _ h => h.elim, fun _ _ _ _ _ _ h => h.elim⟩
  · by_cases z : b = sysModules
    · rw [if_pos z] at e; exact s1 b o e
    · rw [if_neg z] at e; cases e
  · rcases hb with rfl | rfl
    · show H' b ≠ none
      rw [h1]; exact fun z => by cases z
    · show H' b ≠ none
      rw [h2]; exact fun z => by cases z
  · simp
  · match i, e with
    | 0, e => cases e; exact ⟨_, rfl, rfl⟩
    | 1, e => cases e; exact ⟨_, rfl, rfl⟩
    | i + 2, e =>
      have e : (List.replicate n (none : Option B))[i]? = some (some x) := e
      rw [List.getElem?_replicate] at e
      split at e <;> simp at e
  · have key : ∀ {i : Nat} {x : B}, (some (B.d (D.cst (V.ref a))) :: some (B.d (D.cst (V.ref p))) :: List.replicate n none)[i]? = some (some x) → x.own = false := fun {i x} e => by
      match i, e with
      | 0, e => cases e; rfl
      | 1, e => cases e; rfl
      | i + 2, e =>
        have e : (List.replicate n (none : Option B))[i]? = some (some x) := e
        rw [List.getElem?_replicate] at e
        split at e <;> simp at e
    rw [key e1] at o1; cases o1
  · cases (show Res.d .non = Res.d (.bl true) from h)
  · subst h
    have q := out_rf E' rr ho
    cases (show v = .bl true from q)
    exact k _

/-! ### the end -/
theorem law_callZ {P : Program} {w : World} {K : PySem.W.Frag} {mg mb : Str → Option Value} {k : Nat} {fa a : Addr} {fd : FuncData} {x : Str} {sp : Sp} {s₁ : Shared} {vs : List Value} {ns : List Int}
    (KX : K.In s₁.heap) (hns : s₁.heap.Ns mainGlobals mg) (hb : s₁.heap.Ns builtinsNs mb) (hbb : ∀ x : Str, x ≠ "__name__" → mb x = bootBuiltins x) (hlim : s₁.heap.NoLimit) (hg : s₁.gens = #[])
    (hm : ∃ mm, s₁.heap.Ns sysModules mm) (hKm : K.lookup sysModules = none)
    (ha : s₁.heap.get? a = some { cls := .type "list", data := .seq vs.toArray }) (hi : IntsAre vs ns) (hl : ns.length ≤ sizeLine) (hr : Room k callerA)
    (F : ∀ base : Heap, K.In base → base.Ns mainGlobals mg → FnZ P w K mg base CX0 k fa fd [x] sp) (hbind : ∀ (s : Shared) (u : Value), BindsTo s fd ⟨[u], []⟩ [(x, u)])
    (hsp : ∀ H : Hp, Sys H → SqL K H a (ns.map V.int) → sp [.ref a] H (fun v _ => v = .bl true) fun _ _ _ => False) :
    codeAny (model P w) callerA (.call (.ref fa) ⟨[.ref a], []⟩) (fun r s' => r = .ok (.ret (.bool true)) ∧ OldK s₁.heap s'.heap ∧ s'.os = s₁.os ∧ AllBare s'.gens) s₁ := by
  have rv := vals_ints hi
  have lenV := hi.length
  obtain ⟨mm, om, esm, epm, hom, hdm, _⟩ := hm
  have am : a ≠ sysModules := fun z => by
    rw [z, hom] at ha
    cases ha
    cases hdm
  have core : ∀ H : Hp, Sys H → SqL K H a (ns.map V.int) → HOk P w H s₁.heap → (∀ b u, H b = some u → (b = a ∨ b = sysModules) ∧ ∃ o u', u = .frz o u') → (H a ≠ none → K.lookup a = none) →
      codeAny (model P w) callerA (.call (.ref fa) ⟨[.ref a], []⟩) (fun r s' => r = .ok (.ret (.bool true)) ∧ OldK s₁.heap s'.heap ∧ s'.os = s₁.os ∧ AllBare s'.gens) s₁ := by
    intro H sy hS hok hA hK
    have base_of : ∀ {b : Addr} {o : Obj}, s₁.heap.get? b = some o → H b = none → (hidT s₁.heap H).get? b = some o := fun e n => hidT_get e n
    have noA : ∀ {b : Addr} {o : Obj} {es : Array DictEntry} {ep : Nat}, b ≠ sysModules → s₁.heap.get? b = some o → o.data = .dict es ep → H b = none := fun {b o es ep} nb e d => by
      cases q : H b with
      | none => rfl
      | some u =>
        rcases (hA b u q).1 with e' | e'
        · subst e'
          rw [ha] at e; cases e
          have d' : Data.seq vs.toArray _ = Data.dict es ep := d
          cases d'
        · exact absurd e' nb
    have nsK : ∀ {b : Addr} {m : Str → Option Value}, b ≠ sysModules → s₁.heap.Ns b m → (hidT s₁.heap H).Ns b m := fun {b m} nb ⟨o, es, ep, e, d, r⟩ => ⟨o, es, ep, base_of e (noA nb e d), d, r⟩
    have hKb : K.In (hidT s₁.heap H) := fun b o e => base_of (KX b o e) (by
      cases q : H b with
      | none => rfl
      | some u =>
        rcases (hA b u q).1 with e' | e'
        · subst e'
          rw [hK (by rw [q]; simp)] at e; cases e
        · subst e'
          rw [hKm] at e; cases e)
    have hM : Mod K mg (hidT s₁.heap H) := ⟨hKb, nsK (by decide) hns, ⟨mb, nsK (by decide) hb, hbb⟩, let ⟨mc, h1, h2⟩ := hlim; ⟨mc, nsK (by decide) h1, h2⟩⟩
    have e0 : Env0 P w K mg (hidT s₁.heap H) callerA [] s₁ H := ⟨rfl, hM, fun b o e => of_hidT e, Nat.le_of_eq (hidT_size _ _), trivial, fun b hb => absurd (show b ∈ ([] : List Addr) from hb) (by simp), hok, .of_eq hg⟩
    refine codeAny_mono ((F _ hKb (nsK (by decide) hns)).run callerA [] s₁ H ⟨[.ref a], []⟩ [.ref a] [.ref a] _ _ rfl hr e0 (hbind s₁ (.ref a)) (.cons rfl .nil) (hsp H sy hS)) fun r s' h => ?_
    cases r with
    | error e => exact False.elim h
    | ok fl =>
      cases fl with
      | next => exact False.elim h
      | brk => exact False.elim h
      | cont => exact False.elim h
      | ret u =>
        obtain ⟨v, H', os, bare, un, hok', r', q⟩ := h
        have q' : v = .bl true := q
        subst q'
        obtain rfl : u = Value.bool true := r'
        refine ⟨rfl, OldK.of_keep fun b o e => ?_, os, bare⟩
        cases q : H b with
        | none => exact un.keep b o e q (by intro z; exact absurd (show b ∈ ([] : List Addr) from z) (by simp)) (by simp)
        | some u =>
          obtain ⟨_, ob, u', rfl⟩ := hA b u q
          have z2 := un.frzs b ob _ q
          obtain ⟨e1, _⟩ := hok b _ q
          obtain ⟨e2, _⟩ := hok' b _ z2
          rw [e] at e1; cases e1
          exact e2
  have sysOk : ∀ H : Hp, ObjOk P w H s₁.heap sysModules (.frz om (.ext fun _ => True)) := fun H => ⟨hom, trivial, ⟨om, hom⟩, fun _ _ _ _ => trivial⟩
  cases hk : K.lookup a with
  | some o =>
    have e := KX a o hk
    rw [ha] at e
    cases e
    refine core (fun b => if b = sysModules then some (.frz om (.ext fun _ => True)) else none) ⟨om, _, if_pos rfl⟩ (.inr ⟨_, vs.toArray, _, hk, rfl, rfl, rfl, by rw [List.size_toArray, lenV]; exact hl, by simpa using rv⟩) (fun b u z => ?_) (fun b u z => ?_) fun z => absurd (if_neg am) z
    · have z : (if b = sysModules then some (HO.frz om (.ext fun _ => True)) else none) = some u := z
      split at z
      · rename_i hbm; subst hbm; cases z; exact sysOk _
      · cases z
    · have z : (if b = sysModules then some (HO.frz om (.ext fun _ => True)) else none) = some u := z
      split at z
      · rename_i hbm; cases z; exact ⟨.inr hbm, _, _, rfl⟩
      · cases z
  | none =>
    refine core (fun b => if b = sysModules then some (.frz om (.ext fun _ => True)) else if b = a then some (.frz { cls := .type "list", data := .seq vs.toArray } (.lst (ns.map V.int))) else none) ⟨om, _, if_pos rfl⟩ (.inl (.inr ⟨{ cls := .type "list", data := .seq vs.toArray }, by
      show (if a = sysModules then _ else if a = a then _ else none) = _
      rw [if_neg am, if_pos rfl]⟩)) (fun b u z => ?_) (fun b u z => ?_) fun _ => hk
    · have z : (if b = sysModules then some (HO.frz om (.ext fun _ => True)) else if b = a then some (.frz { cls := .type "list", data := .seq vs.toArray } (.lst (ns.map V.int))) else none) = some u := z
      split at z
      · rename_i hbm; subst hbm; cases z; exact sysOk _
      · split at z
        · rename_i hba; cases z
          rw [hba]
          exact ⟨ha, by rw [List.length_map]; exact hl, vs, _, rv, ha⟩
        · cases z
    · have z : (if b = sysModules then some (HO.frz om (.ext fun _ => True)) else if b = a then some (.frz { cls := .type "list", data := .seq vs.toArray } (.lst (ns.map V.int))) else none) = some u := z
      split at z
      · rename_i hbm; cases z; exact ⟨.inr hbm, _, _, rfl⟩
      · split at z
        · rename_i hba; cases z; exact ⟨.inl hba, _, _, rfl⟩
        · cases z
theorem walkZ {l : PySem.W.OpenLaw} {k : Nat} {q : Program} {loose : List Str} {XP : (Str → Option Value) → Heap → Prop} {YP : World → Heap → Prop} {d : DefRec} {K : Params → PySem.W.Frag} {x : Str}
    (hn : l.most = some 63) (hdf : d.params.defaults = []) (hr : Room k callerA) (hi : importsNone q = true)
    (hY : ∀ (w : World) (h : Heap), YP w h → (K w.params).In h) (hKm : ∀ w : World, (K w.params).lookup sysModules = none)
    (F : ∀ (w : World) (mg : Str → Option Value) (fa : Addr) (h : Heap), (K w.params).In h → h.Ns mainGlobals mg → mg d.name = some (.ref fa) →
      ∃ fd : FuncData, (∀ (s : Shared) (u : Value), BindsTo s fd ⟨[u], []⟩ [(x, u)]) ∧ ∀ base : Heap, (K w.params).In base → base.Ns mainGlobals mg → FnZ l.prog w (K w.params) mg base CX0 k fa fd [x] (spLaw (K w.params))) :
    PySem.W.WalkO q loose XP YP l.row.toRowW d [] (fun f vs => PySem.call f vs) := by
  refine Att.attach_call hn hdf fun w s₀ s₁ mg mb fa o pm cd doc a vs ns G Y ho hd hcd hmg hobj hints hlen hg => ?_
  have KX := hY w _ Y
  obtain ⟨fd, hb, hF⟩ := F w mg fa _ KX G.T.g hmg
  obtain ⟨mm, hmm, _⟩ := (G.T.seer hi).mods
  exact law_callZ KX G.T.g G.T.b G.T.builtins G.T.nolimit hg ⟨mm, hmm⟩ (hKm w) hobj hints (Nat.le_trans hlen (by decide)) hr hF hb (fun H sy hS => ⟨a, ns, rfl, hS, hlen, sy, fun _ => rfl⟩)
end Pz

set_option maxRecDepth 100000
set_option maxHeartbeats 4000000
/-! Pz, part 17: the deck is made, a number is drawn. -/
namespace Pz
open PySem L2 PySem.Spec PyProof.Rows

/-- a def that makes the deck: [cells, .., 0] -/
def chkDeck (c : Sx) : List Stmt → Bool
  | [.Assign [.Tuple [.Name a pa, .Name b pb] _ _] (.Tuple [.Call (.Name li _) [.Subscript (.Name s _) (.Slice none (some (.Constant (.int z) _ _)) none _) _] [] p1, .Constant (.int c0) k0 p0] _ _) _,
      .For (.Name x _) (.Name a2 _) [.Assign [.Name b2 _] (.BinOp (.BinOp (.BinOp (.BinOp (.Name b3 _) .Mult (.Constant (.int c1) _ _) _) .Add (.BinOp (.Name x2 _) .Mod (.Constant (.int c2) _ _) _) _) .Add (.Constant (.int c3) _ _) _) .Mod (.Constant (.int c4) _ _) _) _] [] _,
      .Return (some (.List [.Subscript (.Name a3 _) (.Slice none none (some (.UnaryOp .USub (.Constant (.int w) _ _) _)) _) _, .Name b4 _, .Constant (.int u) _ _] _)) _] =>
    okKind c && decide (li = "list" ∧ z = 63 ∧ w = 1 ∧ u = 0 ∧ 0 < c2 ∧ 0 < c4 ∧ -(2 ^ 64) < c1 ∧ c1 < 2 ^ 64) && c.gl li && c.vis 0 s && decide (c.N[1]? = some a ∧ c.N[2]? = some b ∧ c.sc.names.lookup a = some .local ∧ c.sc.names.lookup b = some .local) &&
    parOk [(a, pa), (b, pb)] [.Call (.Name li p1) [.Name s p1] [] p1, .Constant (.int c0) k0 p0] && c.loc 3 x && c.vis 1 a2 && c.loc 2 b2 && c.vis 2 b3 && c.vis 3 x2 && c.vis 1 a3 && c.vis 2 b4
  | _ => false
theorem mk_ok {Γ : Gam} (ok : Γ.Ok) {x qual : Str} {st : Stmt} {f : Addr} {fd : FuncData} {n0 n1 n2 n3 : Str} (F : Fun Γ.K x qual st f fd) (Sc : FnScope [n0, n1, n2, n3] [n0] (defScope st))
    (hc : chkDeck ⟨[n0, n1, n2, n3], defScope st, fun _ => true⟩ (defBody st) = true) : FnZ Γ.P Γ.w Γ.K Γ.mg Γ.base CX0 (Γ.lv + 1) f fd [n0] (spMk Γ.K) := by
  refine fnz_of F Sc (fun vs H Q E h => by obtain ⟨a, ns, rfl, _⟩ := h; rfl) fun cdv A outer s H vs Q E hg hr hsp => ?_
  have G : Good (Γ.at none) ⟨[n0, n1, n2, n3], defScope st, fun _ => true⟩ (cxOf CX0 Γ.P Γ.w Γ.K Γ.mg Γ.base [n0, n1, n2, n3] qual (defScope st) f cdv A outer s H E).nox :=
    ⟨rfl, rfl, rfl, rfl, rfl, rfl, rfl, rfl, Sc.nd, rfl, hg, hr, PassesOwn.never⟩
  obtain ⟨a, ns, rfl, hS, hl, k⟩ := hsp
  generalize hb : defBody st = B at hc
  unfold chkDeck at hc
  split at hc <;> first | (cases hc; done) | skip
  simp only [Bool.and_eq_true, decide_eq_true_eq] at hc
  obtain ⟨⟨⟨⟨⟨⟨⟨⟨⟨⟨⟨⟨hk, ⟨rfl, rfl, rfl, rfl, hc2, hc4, hc1⟩⟩, hgl⟩, v0⟩, ⟨e1, e2, l1, l2⟩⟩, hp⟩, lx⟩, va2⟩, lb2⟩, vb3⟩, vx2⟩, va3⟩, vb4⟩ := hc
  have PV : ∀ {i : Nat} {y : Str} {q : Pos}, Sx.vis ⟨[n0, n1, n2, n3], defScope st, fun _ => true⟩ i y = true → PE (cxOf CX0 Γ.P Γ.w Γ.K Γ.mg Γ.base [n0, n1, n2, n3] qual (defScope st) f cdv A outer s H E).nox (.Name y q) (fun σ H Q => ∃ v, σ[i]? = some (some v) ∧ Q v H) := fun {i y q} h => by
    obtain ⟨h1, h2, h3, h4⟩ := vis_ok G h
    exact pe_var h1 h2 h3 h4
  obtain ⟨x1, x2, x3⟩ := loc_ok G lx
  obtain ⟨y1, y2, y3⟩ := loc_ok G lb2
  have hm : (cxOf CX0 Γ.P Γ.w Γ.K Γ.mg Γ.base [n0, n1, n2, n3] qual (defScope st) f cdv A outer s H E).nox.mg "list" = none := mg_none (ok.at none) G (by decide +kernel)
  refine ⟨_, (pss_cons (ps_par rfl Sc.nd e1 e2 (by decide) l1 l2
      (pa_cons (pe_callTy call_list_of (gl_ok G hgl) hm rfl (pa_cons (pe_slice sl_list (PV v0) po_none (po_some pe_int)) pa_nil (star_cons rfl)) (by decide) (by decide) (star_cons rfl) rfl) (pa_cons pe_int pa_nil (star_cons rfl)) (star_cons rfl))
      (par_ok2 G hk l1 l2 ?_) rfl)
    (pss_cons (ps_for PassesOwn.never rfl (pi_list (PV va2)) (pg_name Sc.nd x1 x2 x3) (pss_one (ps_set Sc.nd y1 y2 (pe_op op_mod (pe_op op_add (pe_op op_add (pe_op op_mul (PV vb3) pe_int) (pe_op op_mod (PV vx2) pe_int)) pe_int) pe_int) rfl y3)))
    (pss_one (ps_ret (pe_lst (pa_cons (pe_revL (PV va3)) (pa_cons (PV vb4) (pa_cons pe_int pa_nil (star_cons rfl)) (star_cons rfl)) (star_cons rfl))))))).nox, ?_⟩
  · exact hp
  · show tSeq _ _ _ [some (V.ref a), none, none, none] H
    obtain ⟨ns', en, hn'⟩ : ∃ ns' : List Int, cutV (ns.map V.int) none (some 63) = ns'.map V.int ∧ ns'.length ≤ 63 := by
      refine ⟨(ns.drop (HT.sIx (ns.map V.int).length 0 none)).take (HT.sIx (ns.map V.int).length (ns.map V.int).length (some 63) - HT.sIx (ns.map V.int).length 0 none), ?_, ?_⟩
      · unfold cutV
        rw [List.map_take, List.map_drop]
      · rw [List.length_take, List.length_drop]; omega
    refine ⟨.ref a, rfl, 63, rfl, a, ns.map V.int, rfl, hS, fun q1 hq1 => ?_⟩
    rw [en]
    refine ⟨q1, ns'.map V.int, rfl, .inl (SqL.of upd_same), fun q2 hq2 => ⟨_, _, rfl, ?_⟩⟩
    have s1 : Same H (upd (upd H q1 (.lst (ns'.map V.int))) q2 (.lst (ns'.map V.int))) := (Same.upd hq1).trans (Same.upd hq2)
    generalize hH2 : upd (upd H q1 (.lst (ns'.map V.int))) q2 (.lst (ns'.map V.int)) = H2 at s1
    have h2 : H2 q2 = some (.lst (ns'.map V.int)) := by rw [← hH2, upd_same]
    rename_i c0 _ _ _ _ _ _ _ _ _ _ _ _ _ _ _ _
    refine ⟨.ref q2, rfl, q2, rfl, ⟨_, SqL.of h2⟩, for_list (K := Γ.K) (a := q2) (xs := ns'.map V.int) (fun i σ H' => ∃ (m : Int) (v : Option V), σ = [some (V.ref a), some (V.ref q2), some (V.int m), v] ∧ H' = H2)
      ⟨_, none, rfl, rfl⟩ (fun i σ H' _ ⟨_, _, _, e⟩ => by rw [e]; exact SqL.of h2) ?_ ?_⟩
    · rintro i y σ H' hi ⟨m, v, rfl, rfl⟩
      obtain ⟨z, rfl⟩ : ∃ z, y = V.int z := by
        rw [List.getElem?_map] at hi
        cases e : ns'[i]? with
        | none => rw [e] at hi; cases hi
        | some z => rw [e] at hi; exact ⟨z, (Option.some.inj hi).symm⟩
      exact ⟨.int m, rfl, _, _, rfl, rfl, .inr hc1, .int z, rfl, _, _, rfl, rfl, hc2, _, _, rfl, rfl, _, _, rfl, rfl, _, _, rfl, rfl, hc4, _, _, rfl, rfl⟩
    · rintro σ H' ⟨m, v, rfl, rfl⟩
      refine ⟨.ref q2, rfl, q2, _, rfl, SqL.of h2, fun c hcn => ⟨.int m, rfl, (by show 3 ≤ sizeLine; decide), fun p hp => ?_⟩⟩
      have ncp : c ≠ p := fun z => by rw [z, upd_same] at hp; cases hp
      refine k p c m ns'.reverse _ (Ne.symm ncp) ?_ ?_ upd_same ?_ (by rw [List.length_reverse]; exact hn') (s1.trans ((Same.upd hcn).trans (Same.upd hp)))
      · exact s1.free (Same.free (Same.upd hcn) hp)
      · exact s1.free hcn
      · rw [upd_ne ncp, upd_same, List.map_reverse]

/-! ### a number is drawn -/
/-- 0 ≤ i < m -/
def pfDraw : List D → Nat → (Res → Nat → Prop) → Prop
  | [.int m], k, R => (0 < m ∧ m < 1073741824 ∧ k < 1099511627776) ∧ ∀ i : Int, 0 ≤ i → i < m → R (.d (.int i)) (k + 1)
  | _, _, _ => False
/-- d[j], d at 0 -/
def isSub (c : Sx) (j : Int) : Expr → Bool
  | .Subscript (.Name d _) (.Constant (.int i) _ _) _ => c.vis 0 d && decide (i = j)
  | _ => false
/-- the last line: of n in 3, m in 1 -/
def chkEnd (c : Sx) : Expr → Bool
  | .BinOp (.BinOp (.BinOp (.BinOp (.Name n _) .Mult (.Constant (.int k1) _ _) _) .Mod (.Constant (.int k2) _ _) _) .FloorDiv (.Constant (.int k3) _ _) _) .Mod (.Name m _) _ =>
    c.vis 3 n && c.vis 1 m && decide (-(2 ^ 64) < k1 ∧ k1 < 2 ^ 64 ∧ 0 < k2 ∧ 0 < k3 ∧ k3 < 1073741824)
  | .BinOp (.BinOp (.BinOp (.BinOp (.Name n _) .Mult (.BinOp (.BinOp (.Name n2 _) .FloorDiv (.Constant (.int k4) _ _) _) .Add (.Constant (.int k1) _ _) _) _) .Mod (.Constant (.int k2) _ _) _) .FloorDiv (.Constant (.int k3) _ _) _) .Mod (.Name m _) _ =>
    c.vis 3 n && c.vis 3 n2 && c.vis 1 m && decide (0 < k2 ∧ 0 < k3 ∧ k3 < 1073741824 ∧ 0 < k4 ∧ k4 < 1073741824)
  | _ => false
/-- (c % k1 + k2 * d[2] * d[2] + k3) * k4 % k5 -/
def chkN1 (c : Sx) : Expr → Bool
  | .BinOp (.BinOp (.BinOp (.BinOp (.BinOp (.Name x _) .Mod (.Constant (.int k1) _ _) _) .Add (.BinOp (.BinOp (.Constant (.int k2) _ _) .Mult s1 _) .Mult s2 _) _) .Add (.Constant (.int k3) _ _) _) .Mult (.Constant (.int k4) _ _) _) .Mod (.Constant (.int k5) _ _) _ =>
    c.vis 2 x && isSub c 2 s1 && isSub c 2 s2 && decide (0 < k1 ∧ 0 ≤ k2 ∧ k2 < 2 ^ 64 ∧ -(2 ^ 64) < k4 ∧ k4 < 2 ^ 64 ∧ 0 < k5 ∧ k5 < 2 ^ 64)
  | _ => false
/-- (n * n + k1 * d[2] + k2) % k3 -/
def chkN2 (c : Sx) : Expr → Bool
  | .BinOp (.BinOp (.BinOp (.BinOp (.Name n _) .Mult (.Name n2 _) _) .Add (.BinOp (.Constant (.int k1) _ _) .Mult s1 _) _) .Add (.Constant (.int k2) _ _) _) .Mod (.Constant (.int k3) _ _) _ =>
    c.vis 3 n && c.vis 3 n2 && isSub c 2 s1 && decide (0 ≤ k1 ∧ k1 < 2 ^ 64 ∧ 0 < k3 ∧ k3 < 2 ^ 64)
  | _ => false
def chkDraw (c : Sx) : List Stmt → Bool
  | [.Assign [.Subscript (.Name d _) (.Constant (.int i2) _ _) _] (.BinOp e2 .Add (.Constant (.int i1) _ _) _) _,
      .Assign [.Name x _] e1 _,
      .If (.Compare e0 [.NotEq] [.List [] _] _) [
        .Assign [.Name x1 _] (.Call (.Attribute e0' pn pp) [] [] pc) _,
        .If (.Compare (.Name x2 _) [.GtE] [.BinOp (.Constant (.int b10) _ _) .Pow (.Constant (.int b18) _ _) _] _) [
          .Expr (.Call (.Attribute e0'' an ap) [.BinOp (.Name x3 _) .FloorDiv (.Name m _) _] [] ac) _,
          .Return (some (.BinOp (.Name x4 _) .Mod (.Name m2 _) _)) _] [] _,
        .Assign [.Name x5 _] (.BinOp (.Name x6 _) .Add e1' _) _] [] _,
      .Assign [.Name n _] en1 _,
      .Assign [.Name n' _] en2 _,
      .Return (some ee) _] =>
    c.vis 0 d && decide (i2 = 2 ∧ i1 = 1 ∧ b10 = 10 ∧ b18 = 18 ∧ pn = "pop" ∧ an = "append") && isSub c 2 e2 && isSub c 1 e1 && isSub c 0 e0 && isSub c 0 e0' && isSub c 0 e0'' && isSub c 1 e1' && c.loc 2 x && c.loc 2 x1 && c.vis 2 x2 && c.vis 2 x3 && c.vis 1 m && c.vis 2 x4 && c.vis 1 m2 && c.loc 2 x5 && c.vis 2 x6 &&
    c.loc 3 n && c.loc 3 n' && chkN1 c en1 && chkN2 c en2 && chkEnd c ee && (pp.endLine == pc.line) && (ap.endLine == ac.line)
  | _ => false
section
variable {Γ : Gam} {c : Sx} {X : Cx}
theorem pv_ok (G : Good Γ c X) {i : Nat} {y : Str} {q : Pos} (h : c.vis i y = true) : PE X (.Name y q) (fun σ H Q => ∃ v, σ[i]? = some (some v) ∧ Q v H) := by
  obtain ⟨h1, h2, h3, h4⟩ := vis_ok G h
  exact pe_var h1 h2 h3 h4
/-- d[j]: what stands there -/
theorem pe_sub (G : Good Γ c X) {j : Int} {e : Expr} (h : isSub c j e = true) : PE X e (fun σ H Q => ∃ p xs v, σ[0]? = some (some (.ref p)) ∧ SqL X.K H p xs ∧ atI xs j = some v ∧ Q v H) := by
  unfold isSub at h
  split at h
  · simp only [Bool.and_eq_true, decide_eq_true_eq] at h
    obtain ⟨h1, rfl⟩ := h
    exact pe_weak (pe_ix ix_list (pv_ok G h1) pe_int fun _ _ => rfl) fun σ H Q ⟨p, xs, v, a1, a2, a3, a4⟩ => ⟨.ref p, a1, p, xs, _, v, rfl, rfl, a2, a3, a4⟩
  · cases h
theorem sub_plain {j : Int} {e : Expr} (h : isSub c j e = true) : plainO e = true ∧ noComp e = true := by
  unfold isSub at h
  split at h
  · exact ⟨rfl, rfl⟩
  · cases h
theorem bnd_mod (a b : Int) (h : 0 < b) : 0 ≤ a % b ∧ a % b < b := ⟨Int.emod_nonneg _ (by omega), Int.emod_lt_of_pos _ h⟩
theorem pe_end (G : Good Γ c X) {e : Expr} (h : chkEnd c e = true) : PE X e (fun σ H Q => ∃ n m : Int, σ[3]? = some (some (.int n)) ∧ σ[1]? = some (some (.int m)) ∧ (0 ≤ n ∧ n < 2 ^ 64) ∧ 0 < m ∧ ∀ i : Int, 0 ≤ i → i < m → Q (.int i) H) := by
  unfold chkEnd at h
  split at h
  · simp only [Bool.and_eq_true, decide_eq_true_eq] at h
    obtain ⟨⟨h1, h2⟩, h3, h3', h4, h5, h6⟩ := h
    refine pe_weak (pe_op op_mod (pe_op op_fdiv (pe_op op_mod (pe_op op_mul (pv_ok G h1) pe_int) pe_int) pe_int) (pv_ok G h2)) fun σ H Q ⟨n, m, a1, a2, a3, a4, k⟩ => ?_
    exact ⟨.int n, a1, _, _, rfl, rfl, .inr ⟨h3, h3'⟩, _, _, rfl, rfl, h4, _, _, rfl, rfl, ⟨h5, h6⟩, .int m, a2, _, _, rfl, rfl, a4, k _ (bnd_mod _ _ a4).1 (bnd_mod _ _ a4).2⟩
  · simp only [Bool.and_eq_true, decide_eq_true_eq] at h
    obtain ⟨⟨⟨h1, h1'⟩, h2⟩, h4, h5, h6, h7, h8⟩ := h
    refine pe_weak (pe_op op_mod (pe_op op_fdiv (pe_op op_mod (pe_op op_mul (pv_ok G h1) (pe_op op_add (pe_op op_fdiv (pv_ok G h1') pe_int) pe_int)) pe_int) pe_int) (pv_ok G h2)) fun σ H Q ⟨n, m, a1, a2, a3, a4, k⟩ => ?_
    exact ⟨.int n, a1, .int n, a1, _, _, rfl, rfl, ⟨h7, h8⟩, _, _, rfl, rfl, _, _, rfl, rfl, .inl ⟨by omega, a3.2⟩, _, _, rfl, rfl, h4, _, _, rfl, rfl, ⟨h5, h6⟩, .int m, a2, _, _, rfl, rfl, a4, k _ (bnd_mod _ _ a4).1 (bnd_mod _ _ a4).2⟩
  · cases h
/-- the count is small -/
theorem small_mul {k2 t : Int} (ht : 0 ≤ t ∧ t < 2 ^ 64) : CMul (k2 * t) t := .inr ⟨by omega, ht.2⟩
theorem pe_n1 (G : Good Γ c X) {e : Expr} (h : chkN1 c e = true) : PE X e (fun σ H Q => ∃ (x t : Int) (p : Addr) (xs : List V), σ[2]? = some (some (.int x)) ∧ σ[0]? = some (some (.ref p)) ∧ SqL X.K H p xs ∧ atI xs 2 = some (.int t) ∧ (0 ≤ t ∧ t < 2 ^ 64) ∧ ∀ i : Int, 0 ≤ i → i < 2 ^ 64 → Q (.int i) H) := by
  unfold chkN1 at h
  split at h
  · simp only [Bool.and_eq_true, decide_eq_true_eq] at h
    obtain ⟨⟨⟨h1, h2⟩, h3⟩, k1, k2, k3, k4, k5, k6, k7⟩ := h
    refine pe_weak (pe_op op_mod (pe_op op_mul (pe_op op_add (pe_op op_add (pe_op op_mod (pv_ok G h1) pe_int) (pe_op op_mul (pe_op op_mul pe_int (pe_sub G h2)) (pe_sub G h3))) pe_int) pe_int) pe_int) fun σ H Q ⟨x, t, p, xs, a1, a2, a3, a4, a5, k⟩ => ?_
    refine ⟨.int x, a1, _, _, rfl, rfl, k1, p, xs, _, a2, a3, a4, _, _, rfl, rfl, .inl ⟨by omega, k3⟩, p, xs, _, a2, a3, a4, _, _, rfl, rfl, small_mul a5, _, _, rfl, rfl, _, _, rfl, rfl, _, _, rfl, rfl, .inr ⟨k4, k5⟩, _, _, rfl, rfl, k6, ?_⟩
    exact k _ (bnd_mod _ _ k6).1 (Int.lt_trans (bnd_mod _ _ k6).2 k7)
  · cases h
theorem pe_n2 (G : Good Γ c X) {e : Expr} (h : chkN2 c e = true) : PE X e (fun σ H Q => ∃ (x t : Int) (p : Addr) (xs : List V), σ[3]? = some (some (.int x)) ∧ (0 ≤ x ∧ x < 2 ^ 64) ∧ σ[0]? = some (some (.ref p)) ∧ SqL X.K H p xs ∧ atI xs 2 = some (.int t) ∧ (0 ≤ t ∧ t < 2 ^ 64) ∧ ∀ i : Int, 0 ≤ i → i < 2 ^ 64 → Q (.int i) H) := by
  unfold chkN2 at h
  split at h
  · simp only [Bool.and_eq_true, decide_eq_true_eq] at h
    obtain ⟨⟨⟨h1, h1'⟩, h2⟩, k1, k2, k3, k4⟩ := h
    refine pe_weak (pe_op op_mod (pe_op op_add (pe_op op_add (pe_op op_mul (pv_ok G h1) (pv_ok G h1')) (pe_op op_mul pe_int (pe_sub G h2))) pe_int) pe_int) fun σ H Q ⟨x, t, p, xs, a1, a0, a2, a3, a4, a5, k⟩ => ?_
    refine ⟨.int x, a1, .int x, a1, _, _, rfl, rfl, .inl ⟨by omega, a0.2⟩, p, xs, _, a2, a3, a4, _, _, rfl, rfl, .inl ⟨by omega, k2⟩, _, _, rfl, rfl, _, _, rfl, rfl, _, _, rfl, rfl, k3, ?_⟩
    exact k _ (bnd_mod _ _ k3).1 (Int.lt_trans (bnd_mod _ _ k3).2 k4)
  · cases h
end
theorem n1_plain {c : Sx} {e : Expr} (h : chkN1 c e = true) : noComp e = true := by
  unfold chkN1 at h
  split at h
  · rfl
  · cases h
theorem n2_plain {c : Sx} {e : Expr} (h : chkN2 c e = true) : noComp e = true := by
  unfold chkN2 at h
  split at h
  · rfl
  · cases h
theorem ints_isD : ∀ ns : List Int, D.isDL (ns.map D.int) = true
  | [] => rfl
  | n :: ns => by simp only [List.map_cons, D.isDL, D.isD, ints_isD ns, Bool.and_self]
theorem ints_plain : ∀ ns : List Int, PyData.plainAll (D.pyL (ns.map D.int)) = true
  | [] => rfl
  | n :: ns => by
    simp only [List.map_cons, D.pyL, PyData.plainAll, ints_plain ns, Bool.and_true]
    rfl
theorem ints_okEq (ns : List Int) : okEq (.lst (ns.map .int)) (.lst []) = true := by
  have h3 : (D.lst []).py.depth ≤ 60 := by decide
  have e : sf (D.lst (ns.map .int)).py (D.lst []).py = true := by
    simp only [D.py, D.pyL, sf, Bool.or_eq_true]
    right
    cases D.pyL (ns.map D.int) <;> rfl
  unfold okEq
  rw [e]
  simp only [D.isD, ints_isD, D.isDL, Bool.and_self, Bool.true_and, decide_eq_true_eq]
  omega
theorem ints_eq (ns : List Int) : (D.lst (ns.map .int)).eq (.lst []) = ns.isEmpty := by
  cases ns <;> rfl
end Pz

set_option maxRecDepth 100000
set_option maxHeartbeats 4000000
/-! Pz, part 18: a number is drawn. -/
namespace Pz
open PySem L2 PySem.Spec PyProof.Rows

theorem draw_ok {Γ : Gam} (ok : Γ.Ok) {x qual : Str} {st : Stmt} {f : Addr} {fd : FuncData} {n0 n1 n2 n3 : Str} (F : Fun Γ.K x qual st f fd) (Sc : FnScope [n0, n1, n2, n3] [n0, n1] (defScope st))
    (hch : chkDraw ⟨[n0, n1, n2, n3], defScope st, fun _ => true⟩ (defBody st) = true) : FnZ Γ.P Γ.w Γ.K Γ.mg Γ.base CX0 (Γ.lv + 1) f fd [n0, n1] (spD Γ.K pfDraw) := by
  refine fnz_of F Sc (fun vs H Q E h => ?_) fun cdv A outer s H vs Q E hg hr hsp => ?_
  · obtain ⟨p, c, ws, k, Hs, ds, R, rfl, _, _, _, h1, h2, _⟩ := h
    match ds, h2 with
    | [.int m], _ => rw [List.length_cons, ← h1.length]; rfl
  have G : Good (Γ.at none) ⟨[n0, n1, n2, n3], defScope st, fun _ => true⟩ (cxOf CX0 Γ.P Γ.w Γ.K Γ.mg Γ.base [n0, n1, n2, n3] qual (defScope st) f cdv A outer s H E).nox :=
    ⟨rfl, rfl, rfl, rfl, rfl, rfl, rfl, rfl, Sc.nd, rfl, hg, hr, PassesOwn.never⟩
  have hu := G.hu
  obtain ⟨p, c, ws, k, Hs, ds, R, rfl, hsame, sy, hd, hr1, hpf, kk⟩ := hsp
  match ds, hpf with
  | [.int m], ⟨⟨hm0, hm1, hk⟩, hR⟩ =>
  obtain ⟨w1, w2, rfl, hw1, hw2⟩ := hr1
  cases (show w1 = _ from hw1)
  cases (show w2 = _ from hw2)
  obtain ⟨hpc, hsp, hsc, mx, ns, hp, hc, hln⟩ := hd
  generalize hb : defBody st = B at hch
  unfold chkDraw at hch
  split at hch <;> first | (cases hch; done) | skip
  simp only [Bool.and_eq_true, decide_eq_true_eq] at hch
  obtain ⟨⟨⟨⟨⟨⟨⟨⟨⟨⟨⟨⟨⟨⟨⟨⟨⟨⟨⟨⟨⟨⟨⟨vd, ⟨rfl, rfl, rfl, rfl, rfl, rfl⟩⟩, s2⟩, s1⟩, s0⟩, s0'⟩, s0''⟩, s1'⟩, lx⟩, lx1⟩, vx2⟩, vx3⟩, vm⟩, vx4⟩, vm2⟩, lx5⟩, vx6⟩, ln⟩, ln'⟩, cn1⟩, cn2⟩, ce⟩, hl1⟩, hl2⟩ := hch
  obtain ⟨x1, x2, x3⟩ := loc_ok G lx
  obtain ⟨y1, y2, y3⟩ := loc_ok G lx1
  obtain ⟨z1, z2, z3⟩ := loc_ok G lx5
  obtain ⟨u1, u2, u3⟩ := loc_ok G ln
  obtain ⟨v1, v2, v3⟩ := loc_ok G ln'
  have hNd : [n0, n1, n2, n3].Nodup := Sc.nd
  refine ⟨_, (pss_cons (ps_asg (pe_op op_add (pe_sub G s2) pe_int) (pg_sub (pv_ok G vd) pe_int set_list) rfl rfl rfl)
    (pss_cons (ps_set hNd x1 x2 (pe_sub G s1) (noComp_ok (sub_plain s1).2 _ _ _) x3)
    (pss_cons (ps_if (pt_cmpR (op_neZ hu) (pe_sub G s0) (pe_lst pa_nil) rfl)
      (pss_cons (ps_set hNd y1 y2 (pe_bm0 PySem.F.plainAttrs_list PySem.F.slot_list_pop PySem.F.type_list_pop mt_pop (pe_sub G s0') (base_ok (sub_plain s0').1 _ _ _) hl1) rfl y3)
      (pss_cons (ps_if (pt_cmpR op_ge (pv_ok G vx2) (pe_op op_pow pe_int pe_int) rfl)
        (pss_cons (ps_expr (pe_bm PySem.F.plainAttrs_list PySem.F.slot_list_append PySem.F.type_list_append mt_append (pe_sub G s0'') (pa_cons (pe_op op_fdiv (pv_ok G vx3) (pv_ok G vm)) pa_nil (star_cons rfl)) (base_ok (sub_plain s0'').1 _ _ _) (star_few rfl (by simp)) hl2 (star_cons rfl) rfl) rfl)
          (pss_one (ps_ret (pe_op op_mod (pv_ok G vx4) (pv_ok G vm2))))) pss_nil)
      (pss_one (ps_set hNd z1 z2 (pe_op op_add (pv_ok G vx6) (pe_sub G s1')) rfl z3)))) pss_nil)
    (pss_cons (ps_set hNd u1 u2 (pe_n1 G cn1) (noComp_ok (n1_plain cn1) _ _ _) u3)
    (pss_cons (ps_set hNd v1 v2 (pe_n2 G cn2) (noComp_ok (n2_plain cn2) _ _ _) v3)
    (pss_one (ps_ret (pe_end G ce)))))))).nox, ?_⟩
  -- the end
  have fin : ∀ (H' : Hp) (ns' : List Int) (i : Int), H' p = some (.lst [.ref c, .int mx, .int ((k : Int) + 1)]) → H' c = some (.lst (ns'.map V.int)) → ns'.length ≤ 63 → (∀ b o, H b = some o → b ≠ p → b ≠ c → H' b = some o) → 0 ≤ i → i < m → Q (.int i) H' := fun H' ns' i h1 h2 h3 h4 h5 h6 =>
    kk Hs H' (.int i) (.d (.int i)) (k + 1) (Same.refl _) (fun b o e => h4 b o (hsame b o e) (fun z => by rw [z, hsp] at e; cases e) fun z => by rw [z, hsc] at e; cases e) ⟨hpc, hsp, hsc, mx, ns', h1, h2, h3⟩
      (fun b o e n => h4 b o e (fun z => n (.inl z)) fun z => n (.inr z)) (fun b _ h => h) rfl (hR i h5 h6)
  have ht : (0 : Int) ≤ (k : Int) + 1 ∧ (k : Int) + 1 < 2 ^ 64 := by
    have : (k : Int) < 1099511627776 := by omega
    omega
  obtain ⟨om, φ, hom⟩ := sy
  have pm : p ≠ sysModules := fun z => by rw [z, hom] at hsp; cases hsp
  have cm : c ≠ sysModules := fun z => by rw [z, hom] at hsc; cases hsc
  show tSeq _ (tSeq _ (tSeq _ (tSeq _ (tSeq _ _)))) _ [some (V.ref p), some (V.int m), none, none] H
  refine ⟨p, _, _, rfl, SqL.of hp, rfl, _, _, rfl, rfl, .ref p, rfl, p, _, 2, 2, rfl, rfl, hp, rfl, ?_⟩
  generalize hH1 : upd H p (.lst ([V.ref c, .int mx, .int k].set 2 (.int ((k : Int) + 1)))) = H1
  have hp1 : H1 p = some (.lst [.ref c, .int mx, .int ((k : Int) + 1)]) := by rw [← hH1, upd_same]; rfl
  have ho1 : ∀ b, b ≠ p → H1 b = H b := fun b hb => by rw [← hH1, upd_ne hb]
  have hc1 : H1 c = some (.lst (ns.map V.int)) := by rw [ho1 c (Ne.symm hpc)]; exact hc
  refine ⟨p, _, _, rfl, SqL.of hp1, rfl, ?_⟩
  refine ⟨p, _, _, rfl, SqL.of hp1, rfl, by show 0 ≤ sizeLine; decide, fun l hl => ?_⟩
  have nlp : l ≠ p := fun z => by rw [z, hp1] at hl; cases hl
  have nlc : l ≠ c := fun z => by rw [z, hc1] at hl; cases hl
  have nlm : l ≠ sysModules := fun z => by rw [z, ho1 _ (Ne.symm pm), hsame _ _ hom] at hl; cases hl
  generalize hH2 : upd H1 l (.lst []) = H2
  have ho2 : ∀ b, b ≠ p → b ≠ l → H2 b = H b := fun b hb hb2 => by rw [← hH2, upd_ne hb2]; exact ho1 b hb
  have hp2 : H2 p = some (.lst [.ref c, .int mx, .int ((k : Int) + 1)]) := by rw [← hH2, upd_ne (Ne.symm nlp)]; exact hp1
  have hc2 : H2 c = some (.lst (ns.map V.int)) := by rw [← hH2, upd_ne (Ne.symm nlc)]; exact hc1
  have hl2 : H2 l = some (.lst []) := by rw [← hH2, upd_same]
  have hHl : H l = none := by rw [← ho1 l nlp]; exact hl
  have keep2 : ∀ b o, H b = some o → b ≠ p → b ≠ c → H2 b = some o := fun b o e n1 n2 => by
    by_cases z : b = l
    · rw [z, hHl] at e; cases e
    · rw [ho2 b n1 z]; exact e
  -- the end of the def, from any number in x
  refine ⟨.lst (ns.map .int), .lst [], ⟨om, φ, by rw [ho2 _ (Ne.symm pm) (Ne.symm nlm)]; exact hsame _ _ hom⟩, ⟨c, _, rfl, hc2, RpL.ints ns⟩, ⟨l, [], rfl, hl2, rfl⟩, ints_okEq ns, _, rfl, ?_⟩
  rw [ints_eq, Bool.true_xor]
  cases ns with
  | nil =>
    refine iteF ?_
    exact ⟨mx, _, p, _, rfl, rfl, SqL.of hp2, rfl, ht, fun i1 j1 j1' => ⟨i1, _, p, _, rfl, ⟨j1, j1'⟩, rfl, SqL.of hp2, rfl, ht, fun i2 j2 j2' => ⟨i2, m, rfl, rfl, ⟨j2, j2'⟩, hm0, fun i j3 j4 => fin H2 [] i hp2 hc2 (by simp) keep2 j3 j4⟩⟩⟩
  | cons n ns =>
    refine iteT ?_
    obtain ⟨z, hz⟩ : ∃ z : Int, ((n :: ns).map V.int)[((n :: ns).map V.int).length - 1]? = some (.int z) := by
      refine ⟨(n :: ns)[ns.length]'(by simp), ?_⟩
      rw [List.length_map, List.length_cons, Nat.add_sub_cancel, List.getElem?_map, List.getElem?_eq_getElem (by simp)]
      rfl
    refine ⟨p, _, _, rfl, SqL.of hp2, rfl, .inl ⟨rfl, _, SqL.of hc2⟩, c, _, _, rfl, rfl, hc2, hz, ?_⟩
    generalize hH3 : upd H2 c (.lst ((n :: ns).map V.int).dropLast) = H3
    have hp3 : H3 p = some (.lst [.ref c, .int mx, .int ((k : Int) + 1)]) := by rw [← hH3, upd_ne hpc]; exact hp2
    have hc3 : H3 c = some (.lst (((n :: ns).dropLast).map V.int)) := by rw [← hH3, upd_same, List.map_dropLast]
    have hl3 : ((n :: ns).dropLast).length ≤ 63 := by rw [List.length_dropLast]; omega
    have keep3 : ∀ b o, H b = some o → b ≠ p → b ≠ c → H3 b = some o := fun b o e n1 n2 => by rw [← hH3, upd_ne n2]; exact keep2 b o e n1 n2
    refine ⟨.int z, rfl, _, _, rfl, rfl, ⟨by decide, by decide, by decide⟩, _, _, rfl, rfl, _, rfl, ?_⟩
    refine ite2 (fun _ => ?_) (fun _ => ?_)
    · refine ⟨p, _, _, rfl, SqL.of hp3, rfl, .inl ⟨rfl, _, SqL.of hc3⟩, .int z, rfl, .int m, rfl, _, _, rfl, rfl, ⟨hm0, hm1⟩, c, _, _, rfl, rfl, hc3, by rw [List.length_map]; exact Nat.lt_of_le_of_lt hl3 (by decide), ?_⟩
      refine ⟨.int z, rfl, .int m, rfl, _, _, rfl, rfl, hm0, ?_⟩
      refine fin _ ((n :: ns).dropLast ++ [z / m]) _ (by rw [upd_ne hpc]; exact hp3) (by rw [upd_same, List.map_append]; rfl) (by rw [List.length_append, List.length_dropLast]; simp at hln ⊢; omega) (fun b o e n1 n2 => by rw [upd_ne n2]; exact keep3 b o e n1 n2) (bnd_mod _ _ hm0).1 (bnd_mod _ _ hm0).2
    · refine ⟨.int z, rfl, p, _, _, rfl, SqL.of hp3, rfl, _, _, rfl, rfl, ?_⟩
      exact ⟨_, _, p, _, rfl, rfl, SqL.of hp3, rfl, ht, fun i1 j1 j1' => ⟨i1, _, p, _, rfl, ⟨j1, j1'⟩, rfl, SqL.of hp3, rfl, ht, fun i2 j2 j2' => ⟨i2, m, rfl, rfl, ⟨j2, j2'⟩, hm0, fun i j3 j4 => fin H3 _ i hp3 hc3 hl3 keep3 j3 j4⟩⟩⟩
end Pz

set_option maxRecDepth 100000
set_option maxHeartbeats 4000000
/-! Pz, part 19: the defs of a module, one after another. -/
namespace Pz
open PySem L2 PySem.Spec PyProof.Rows

def Fs.add (F : Fs) (x : Str) (i : FnI) : Fs := ⟨fun y => if y = x then some i else F.fn y, F.kw, F.gv, F.kd⟩
def Fs.addK (F : Fs) (x : Str) (ks : List Str) (i : FnI) : Fs := ⟨F.fn, fun y js => if y = x ∧ js = ks then some i else F.kw y js, F.gv, F.kd⟩
def Fs.addG (F : Fs) (x : Str) (d : D) : Fs := ⟨F.fn, F.kw, fun y => if y = x then some d else F.gv y, F.kd⟩
def Fs.addT (F : Fs) (x : Str) (t : List (Str × Nat × FnI)) : Fs := ⟨F.fn, F.kw, F.gv, fun y => if y = x then some t else F.kd y⟩
def Fs.nil : Fs := ⟨fun _ => none, fun _ _ => none, fun _ => none, fun _ => none⟩
def Gam.add (Γ : Gam) (x : Str) (i : FnI) : Gam := { Γ with lv := Γ.lv + 1, F := Γ.F.add x i }
def Gam.addK (Γ : Gam) (x : Str) (ks : List Str) (i : FnI) : Gam := { Γ with F := Γ.F.addK x ks i }
def Gam.addG (Γ : Gam) (x : Str) (d : D) : Gam := { Γ with F := Γ.F.addG x d }
def Gam.addT (Γ : Gam) (x : Str) (t : List (Str × Nat × FnI)) : Gam := { Γ with F := Γ.F.addT x t }
def Gam.nil (P : Program) (w : World) (K : PySem.W.Frag) (mg : Str → Option Value) (base : Heap) : Gam := ⟨P, w, K, mg, base, 0, none, Fs.nil⟩
/-- a def of the module's text -/
structure DefAt (K : PySem.W.Frag) (mg : Str → Option Value) (x : Str) (st : Stmt) (ps : List Str) (f : Addr) (fd : FuncData) : Prop where
  fn : Fun K x x st f fd
  mg : mg x = some (.ref f)
  bd : Binds K fd ps []
theorem Has.up {Γ Γ' : Gam} {x : Str} {i : FnI} (h : Has Γ x i) (e1 : Γ'.P = Γ.P) (e2 : Γ'.w = Γ.w) (e3 : Γ'.K = Γ.K) (e4 : Γ'.mg = Γ.mg) (e5 : Γ'.base = Γ.base) (hl : Γ.lv ≤ Γ'.lv) : Has Γ' x i := by
  obtain ⟨f, fd, ps, k, h1, h2⟩ := h.ex
  exact ⟨f, fd, ps, k, Nat.le_trans h1 hl, by rw [e1, e2, e3, e4, e5]; exact h2⟩
theorem HasK.up {Γ Γ' : Gam} {x : Str} {ks : List Str} {i : FnI} (h : HasK Γ x ks i) (e1 : Γ'.P = Γ.P) (e2 : Γ'.w = Γ.w) (e3 : Γ'.K = Γ.K) (e4 : Γ'.mg = Γ.mg) (e5 : Γ'.base = Γ.base) (hl : Γ.lv ≤ Γ'.lv) : HasK Γ' x ks i := by
  obtain ⟨f, fd, ps, k, pf, π, h1, h2⟩ := h.ex
  exact ⟨f, fd, ps, k, pf, π, Nat.le_trans h1 hl, by rw [e1, e2, e3, e4, e5]; exact h2⟩
theorem Gam.Ok.nil {P : Program} {w : World} {K : PySem.W.Frag} {mg : Str → Option Value} {base : Heap} (nb : ∀ x ∈ blts, mg x = none) : (Gam.nil P w K mg base).Ok := ⟨fun x i h => (nomatch (show (none : Option FnI) = some i from h)), fun x ks i h => (nomatch (show (none : Option FnI) = some i from h)), nb, fun x d h => (nomatch (show (none : Option D) = some d from h)), fun x t h => (nomatch (show (none : Option (List (Str × Nat × FnI))) = some t from h))⟩
theorem Gam.Ok.add {Γ : Gam} (ok : Γ.Ok) {x : Str} {i : FnI} {st : Stmt} {ps : List Str} {f : Addr} {fd : FuncData} (D : DefAt Γ.K Γ.mg x st ps f fd) (F : FnZ Γ.P Γ.w Γ.K Γ.mg Γ.base CX0 (Γ.lv + 1) f fd ps (i.sp Γ.K)) : (Γ.add x i).Ok := by
  refine ⟨fun y j h => ?_, fun y ks j h => (ok.kw y ks j h).up rfl rfl rfl rfl rfl (Nat.le_succ _), ok.nb, fun y d h => ⟨(ok.gv y d h).ex⟩, fun y t h => (ok.kd y t h).up rfl rfl rfl rfl rfl (Nat.le_succ _)⟩
  have h : (if y = x then some i else Γ.F.fn y) = some j := h
  split at h
  · rename_i e
    cases h
    subst e
    exact ⟨f, fd, ps, Γ.lv + 1, Nat.le_refl _, F, D.mg, D.fn.kp, D.bd⟩
  · exact (ok.fn y j h).up rfl rfl rfl rfl rfl (Nat.le_succ _)
/-- a def is added by its rule -/
theorem Gam.Ok.def {Γ : Gam} (ok : Γ.Ok) {x : Str} {i : FnI} {st : Stmt} {N ps : List Str} {f : Addr} {fd : FuncData} {body : List IS} (D : DefAt Γ.K Γ.mg x st ps f fd) (Sc : FnScope N ps (defScope st)) (hc : chkSs ⟨N, defScope st, fun _ => true⟩ body (defBody st) = true)
    (hl : i.Len ps.length) (hk : Keeps Γ.F N body i) : (Γ.add x i).Ok := ok.add D (def_ok ok D.fn Sc body i hl hc hk)
theorem Gam.Ok.draw {Γ : Gam} (ok : Γ.Ok) {x : Str} {st : Stmt} {n0 n1 n2 n3 : Str} {f : Addr} {fd : FuncData} (D : DefAt Γ.K Γ.mg x st [n0, n1] f fd) (Sc : FnScope [n0, n1, n2, n3] [n0, n1] (defScope st)) (hc : chkDraw ⟨[n0, n1, n2, n3], defScope st, fun _ => true⟩ (defBody st) = true) :
    (Γ.add x (.dk pfDraw)).Ok := ok.add (i := .dk pfDraw) D (draw_ok ok D.fn Sc hc)
/-- .. and by keywords -/
theorem Gam.Ok.kwd {Γ : Gam} (ok : Γ.Ok) {x : Str} {pf : List D → (Res → Prop) → Prop} {st : Stmt} {ps ks : List Str} {π : List Nat} {f : Addr} {fd : FuncData} (D : DefAt Γ.K Γ.mg x st ps f fd) (F : FnZ Γ.P Γ.w Γ.K Γ.mg Γ.base CX0 Γ.lv f fd ps (spP Γ.K pf))
    (hb : ∀ (s : Shared) (ws : List Value), Γ.K.In s.heap → ws.length = ks.length → BindsTo s fd ⟨[], ks.zip ws⟩ (ps.zip (pick π ws))) : (Γ.addK x ks (.pu fun ds R => ds.length = ks.length ∧ pf (pick π ds) R)).Ok := by
  refine ⟨fun y j h => (ok.fn y j h).up rfl rfl rfl rfl rfl (Nat.le_refl _), fun y js j h => ?_, ok.nb, fun y d h => ⟨(ok.gv y d h).ex⟩, fun y t h => (ok.kd y t h).up rfl rfl rfl rfl rfl (Nat.le_refl _)⟩
  have h : (if y = x ∧ js = ks then some (FnI.pu fun ds R => ds.length = ks.length ∧ pf (pick π ds) R) else Γ.F.kw y js) = some j := h
  by_cases e : y = x ∧ js = ks
  · rw [if_pos e] at h
    have h9 := (Option.some.inj h).symm
    obtain ⟨e1, e2⟩ := e
    rw [e1, e2, h9]
    exact ⟨f, fd, ps, Γ.lv, pf, π, Nat.le_refl _, F, D.mg, D.fn.kp, hb, rfl⟩
  · rw [if_neg e] at h
    exact (ok.kw y js j h).up rfl rfl rfl rfl rfl (Nat.le_refl _)
theorem Gam.Ok.defK {Γ : Gam} (ok : Γ.Ok) {x : Str} {pf : List D → (Res → Prop) → Prop} {st : Stmt} {N ps ks : List Str} {π : List Nat} {f : Addr} {fd : FuncData} {body : List IS} (D : DefAt Γ.K Γ.mg x st ps f fd) (Sc : FnScope N ps (defScope st)) (hc : chkSs ⟨N, defScope st, fun _ => true⟩ body (defBody st) = true)
    (hl : FnI.Len ps.length (.pu pf)) (hk : Keeps Γ.F N body (.pu pf)) (hb : ∀ (s : Shared) (ws : List Value), Γ.K.In s.heap → ws.length = ks.length → BindsTo s fd ⟨[], ks.zip ws⟩ (ps.zip (pick π ws))) :
    ((Γ.add x (.pu pf)).addK x ks (.pu fun ds R => ds.length = ks.length ∧ pf (pick π ds) R)).Ok :=
  (ok.def D Sc hc hl hk).kwd (Γ := Γ.add x (.pu pf)) (st := st) D (def_ok ok D.fn Sc body (.pu pf) hl hc hk) hb
/-- how the keywords bind: by computing -/
theorem Fun.kwb {K : PySem.W.Frag} {x qual : Str} {st : Stmt} {f : Addr} {fd : FuncData} (F : Fun K x qual st f fd) {ps ks : List Str} {π : List Nat}
    (h : ∀ (kV doc pm : Value) (an : Option Addr) (cdv ct : Value) (ws : List Value), ws.length = ks.length → bindArgs (PySem.W.fnOf x qual (defArgs st) (defBody st) (defScope st) .none kV doc pm an cdv ct) ⟨[], ks.zip ws⟩ = pure (ps.zip (pick π ws))) :
    ∀ (s : Shared) (ws : List Value), K.In s.heap → ws.length = ks.length → BindsTo s fd ⟨[], ks.zip ws⟩ (ps.zip (pick π ws)) := by
  obtain ⟨oc, od, kV, doc, pm, an, cdv, ct, osl, rfl, lk, hcd⟩ := F.ex
  exact fun s ws _ hl => .of_eq (h kV doc pm an cdv ct ws hl)
theorem defAt_mk {K : PySem.W.Frag} {h : Heap} {mg : Str → Option Value} (X : K.In h) (G : h.Ns mainGlobals mg) {x : Str} {st : Stmt} {ps : List Str} {f : Addr} {oc : Value} {od an : Option Addr} {osl : Array (Option Value)} {kV doc pm cdv ct : Value}
    (a : PySem.W.nsIn K mainGlobals x = some (some (.ref f))) (l : K.lookup f = some ⟨oc, od, .func (PySem.W.fnOf x x (defArgs st) (defBody st) (defScope st) .none kV doc pm an cdv ct), osl⟩)
    (c : PySem.W.codeIn K cdv x = true) (k : PySem.W.keepIn K (.ref f) = true)
    (b : ∀ (kV doc pm : Value) (an : Option Addr) (cdv ct : Value) (us : List Value), us.length = ps.length → bindArgs (PySem.W.fnOf x x (defArgs st) (defBody st) (defScope st) .none kV doc pm an cdv ct) ⟨us, []⟩ = pure (ps.zip us)) :
    ∃ (f : Addr) (fd : FuncData), DefAt K mg x st ps f fd :=
  ⟨f, _, ⟨fun_mk l c k, PySem.W.mg_of X G a, (fun_mk l c k).binds b⟩⟩
theorem blts_mk {K : PySem.W.Frag} {h : Heap} {mg : Str → Option Value} (X : K.In h) (G : h.Ns mainGlobals mg) (z : ∀ x ∈ blts, PySem.W.nsIn K mainGlobals x = some none) : ∀ x ∈ blts, mg x = none := fun x hx => PySem.W.mg_none_of X G (z x hx)
theorem Gam.Ok.glob {Γ : Gam} (ok : Γ.Ok) {x : Str} {d : D} (g : Glob Γ x d) : (Γ.addG x d).Ok := by
  refine ⟨fun y j h => (ok.fn y j h).up rfl rfl rfl rfl rfl (Nat.le_refl _), fun y ks j h => (ok.kw y ks j h).up rfl rfl rfl rfl rfl (Nat.le_refl _), ok.nb, fun y e h => ?_, fun y t h => (ok.kd y t h).up rfl rfl rfl rfl rfl (Nat.le_refl _)⟩
  have h : (if y = x then some d else Γ.F.gv y) = some e := h
  split at h
  · rename_i q
    cases h
    subst q
    exact ⟨g.ex⟩
  · exact ⟨(ok.gv y e h).ex⟩
/-- what a written table of written pairs says -/
theorem ktab_mk {Γ : Gam} {x : Str} {t : List (Str × Nat × FnI)} {a : Addr} {es : Array DictEntry} {n : Nat} (hm : Γ.mg x = some (.ref a)) (hl : Γ.K.lookup a = some ⟨.type "dict", none, .dict es n, #[]⟩) (lit : PySem.W.KeysLit Γ.w.params es.toList) (low : (a == sysModules) = false)
    (h : ∀ z, (t.lookup z = none → PySem.W.nsIn Γ.K a z = some none) ∧ ∀ m i, t.lookup z = some (m, i) → ∃ (p f : Addr) (o : Obj) (its : Array Value) (q : Nat) (tk : Tok), PySem.W.nsIn Γ.K a z = some (some (.ref p)) ∧ Γ.K.lookup p = some o ∧ o.cls = .type "tuple" ∧ o.data = .seq its q ∧ its.toList = [.int (m : Int) tk, .ref f] ∧ HasF Γ f i) : KTab Γ x t :=
  ⟨a, es, n, hm, ⟨hl, lit, low⟩, h⟩
theorem Gam.Ok.tab {Γ : Gam} (ok : Γ.Ok) {x : Str} {t : List (Str × Nat × FnI)} (g : KTab Γ x t) : (Γ.addT x t).Ok := by
  refine ⟨fun y j h => (ok.fn y j h).up rfl rfl rfl rfl rfl (Nat.le_refl _), fun y ks j h => (ok.kw y ks j h).up rfl rfl rfl rfl rfl (Nat.le_refl _), ok.nb, fun y d h => ⟨(ok.gv y d h).ex⟩, fun y e h => ?_⟩
  have h : (if y = x then some t else Γ.F.kd y) = some e := h
  split at h
  · rename_i q
    cases h
    subst q
    exact g.up rfl rfl rfl rfl rfl (Nat.le_refl _)
  · exact (ok.kd y e h).up rfl rfl rfl rfl rfl (Nat.le_refl _)
theorem glob_str {Γ : Gam} {x z : Str} {t : Tok} (h : Γ.mg x = some (.str z t)) : Glob Γ x (.str z) := ⟨_, .str z, h, ⟨t, rfl⟩, fun _ => rfl⟩
theorem glob_int {Γ : Gam} {x : Str} {i : Int} {t : Tok} (h : Γ.mg x = some (.int i t)) : Glob Γ x (.int i) := ⟨_, .int i, h, ⟨t, rfl⟩, fun _ => rfl⟩
theorem kd_eq {Γ : Gam} {x : Str} {t : List (Str × Nat × FnI)} : (Γ.addT x t).F.kd x = some t := if_pos rfl
theorem kd_a {Γ : Gam} {x y : Str} {i : FnI} {t : List (Str × Nat × FnI)} (g : Γ.F.kd y = some t) : (Γ.add x i).F.kd y = some t := g
theorem kd_k {Γ : Gam} {x y : Str} {ks : List Str} {i : FnI} {t : List (Str × Nat × FnI)} (g : Γ.F.kd y = some t) : (Γ.addK x ks i).F.kd y = some t := g
theorem fn_t {Γ : Gam} {x y : Str} {t : List (Str × Nat × FnI)} {j : FnI} (g : Γ.F.fn y = some j) : (Γ.addT x t).F.fn y = some j := g
theorem kw_t {Γ : Gam} {x y : Str} {t : List (Str × Nat × FnI)} {ks : List Str} {j : FnI} (g : Γ.F.kw y ks = some j) : (Γ.addT x t).F.kw y ks = some j := g
theorem gv_t {Γ : Gam} {x y : Str} {t : List (Str × Nat × FnI)} {d : D} (g : Γ.F.gv y = some d) : (Γ.addT x t).F.gv y = some d := g
theorem gv_eq {Γ : Gam} {x : Str} {d : D} : (Γ.addG x d).F.gv x = some d := if_pos rfl
theorem gv_ne {Γ : Gam} {x y : Str} {d e : D} (h : y ≠ x) (g : Γ.F.gv y = some e) : (Γ.addG x d).F.gv y = some e := (if_neg h).trans g
theorem gv_a {Γ : Gam} {x y : Str} {i : FnI} {e : D} (g : Γ.F.gv y = some e) : (Γ.add x i).F.gv y = some e := g
theorem gv_k {Γ : Gam} {x y : Str} {ks : List Str} {i : FnI} {e : D} (g : Γ.F.gv y = some e) : (Γ.addK x ks i).F.gv y = some e := g
theorem fn_g {Γ : Gam} {x y : Str} {d : D} {j : FnI} (g : Γ.F.fn y = some j) : (Γ.addG x d).F.fn y = some j := g
theorem kw_g {Γ : Gam} {x y : Str} {d : D} {ks : List Str} {j : FnI} (g : Γ.F.kw y ks = some j) : (Γ.addG x d).F.kw y ks = some j := g
theorem fn_eq {Γ : Gam} {x : Str} {i : FnI} : (Γ.add x i).F.fn x = some i := if_pos rfl
theorem fn_ne {Γ : Gam} {x y : Str} {i j : FnI} (h : y ≠ x) (g : Γ.F.fn y = some j) : (Γ.add x i).F.fn y = some j := (if_neg h).trans g
theorem fn_k {Γ : Gam} {x y : Str} {ks : List Str} {i j : FnI} (g : Γ.F.fn y = some j) : (Γ.addK x ks i).F.fn y = some j := g
theorem kw_eq {Γ : Gam} {x : Str} {ks : List Str} {i : FnI} : (Γ.addK x ks i).F.kw x ks = some i := if_pos ⟨rfl, rfl⟩
theorem kw_ne {Γ : Gam} {x y : Str} {ks js : List Str} {i j : FnI} (h : ¬ (y = x ∧ js = ks)) (g : Γ.F.kw y js = some j) : (Γ.addK x ks i).F.kw y js = some j := (if_neg h).trans g
theorem kw_a {Γ : Gam} {x y : Str} {js : List Str} {i j : FnI} (g : Γ.F.kw y js = some j) : (Γ.add x i).F.kw y js = some j := g
end Pz

set_option maxRecDepth 100000
set_option maxHeartbeats 4000000
/-! Pz, part 20: how large a datum is. -/
namespace Pz
open PySem L2 PySem.Spec PyProof.Rows

/-- small enough to be shown: leaves of at most B signs, n parts, k deep -/
structure Sm (B n k : Nat) (d : D) : Prop where
  isD : d.isD = true
  sh : d.py.showable = true
  lv : d.py.leavesShort B = true
  bk : d.py.bulk ≤ n
  dp : d.py.depth ≤ k
section
variable {B n k : Nat} {d : D}
theorem Sm.mono {n' k' : Nat} (h : Sm B n k d) (h1 : n ≤ n') (h2 : k ≤ k') : Sm B n' k' d := ⟨h.isD, h.sh, h.lv, Nat.le_trans h.bk h1, Nat.le_trans h.dp h2⟩
theorem Sm.show (h : Sm B n k d) (hB : 8 ≤ B) (hs : (B + 2) * n + B ≤ sizeLine) (hk : k ≤ 60) : okShow d = true ∧ d.py.shown.length ≤ sizeLine := by
  refine ⟨by simp only [okShow, h.isD, h.sh, Bool.and_self, Bool.true_and, decide_eq_true_eq]; exact Nat.le_trans h.dp hk, ?_⟩
  have := PyData.shown_le_bulk B hB d.py h.lv
  have h2 : (B + 2) * d.py.bulk ≤ (B + 2) * n := Nat.mul_le_mul_left _ h.bk
  omega
theorem Sm.non : Sm B n k .non := ⟨rfl, rfl, rfl, Nat.zero_le _, Nat.zero_le _⟩
theorem Sm.bl {b : Bool} : Sm B n k (.bl b) := ⟨rfl, rfl, rfl, Nat.zero_le _, Nat.zero_le _⟩
theorem shown_int {i : Int} (h1 : -(10 ^ 42) < i) (h2 : i < 10 ^ 42) : (PyData.shown (.int i)).length ≤ 43 := by
  show (Str.ofString (toString i)).length ≤ 43
  by_cases h0 : 0 ≤ i
  · exact Nat.le_trans (toString_length_le h0 (by decide) h2) (by decide)
  · have e := len_text_negI (n := i) (by omega)
    have := toString_length_le (v := 0 - i) (k := 42) (by omega) (by decide) (by omega)
    omega
theorem Sm.int {i : Int} (hB : 43 ≤ B) (h1 : -(10 ^ 42) < i) (h2 : i < 10 ^ 42) : Sm B n k (.int i) := by
  refine ⟨rfl, ?_, ?_, Nat.zero_le _, Nat.zero_le _⟩
  · show decide (i.natAbs.log2 < 1920) = true
    rw [decide_eq_true_eq]
    by_cases z : i.natAbs = 0
    · rw [z]; decide
    · refine (Nat.log2_lt z).mpr ?_
      have : i.natAbs < 10 ^ 42 := by omega
      exact Nat.lt_of_lt_of_le this (by decide)
  · show decide ((PyData.shown (.int i)).length ≤ B) = true
    rw [decide_eq_true_eq]
    exact Nat.le_trans (shown_int h1 h2) hB
theorem Sm.str {x : Str} (h : ∀ c ∈ x.cps.toList, c < 128) (hl : x.length ≤ n) : Sm B n k (.str x) := by
  refine ⟨rfl, rfl, ?_, hl, Nat.zero_le _⟩
  show (x.cps.toList.all fun c => decide (c < 16 ^ 8)) = true
  rw [List.all_eq_true]
  exact fun c hc => by rw [decide_eq_true_eq]; exact Nat.lt_of_lt_of_le (h c hc) (by decide)
theorem sm_all : ∀ {ds : List D}, (∀ d ∈ ds, Sm B n k d) → D.isDL ds = true ∧ PyData.showableAll (D.pyL ds) = true ∧ PyData.leavesShortAll B (D.pyL ds) = true ∧ PyData.bulkAll (D.pyL ds) ≤ ds.length * (n + 1) ∧ PyData.depthAll (D.pyL ds) ≤ k
  | [], _ => ⟨rfl, rfl, rfl, Nat.zero_le _, Nat.zero_le _⟩
  | d :: ds, h => by
    obtain ⟨h1, h2, h3, h4, h5⟩ := sm_all (ds := ds) fun x hx => h x (List.mem_cons_of_mem _ hx)
    have h0 := h d List.mem_cons_self
    refine ⟨?_, ?_, ?_, ?_, ?_⟩
    · simp only [D.isDL, h0.isD, h1, Bool.and_self]
    · simp only [D.pyL, PyData.showableAll, h0.sh, h2, Bool.and_self]
    · simp only [D.pyL, PyData.leavesShortAll, h0.lv, h3, Bool.and_self]
    · simp only [D.pyL, PyData.bulkAll, List.length_cons, Nat.succ_mul]
      have := h0.bk
      omega
    · simp only [D.pyL, PyData.depthAll]
      exact Nat.max_le.mpr ⟨h0.dp, h5⟩
theorem Sm.lst {ds : List D} (h : ∀ d ∈ ds, Sm B n k d) : Sm B (ds.length * (n + 1)) (k + 1) (.lst ds) := by
  obtain ⟨h1, h2, h3, h4, h5⟩ := sm_all h
  refine ⟨?_, ?_, ?_, ?_, ?_⟩
  · simp only [D.isD, h1]
  · simp only [D.py, PyData.showable, h2]
  · simp only [D.py, PyData.leavesShort, h3]
  · simp only [D.py, PyData.bulk]; exact h4
  · simp only [D.py, PyData.depth]; omega
theorem Sm.tup {ds : List D} (h : ∀ d ∈ ds, Sm B n k d) : Sm B (ds.length * (n + 1)) (k + 1) (.tup ds) := by
  obtain ⟨h1, h2, h3, h4, h5⟩ := sm_all h
  refine ⟨?_, ?_, ?_, ?_, ?_⟩
  · simp only [D.isD, h1]
  · simp only [D.py, PyData.showable, h2]
  · simp only [D.py, PyData.leavesShort, h3]
  · simp only [D.py, PyData.bulk]; exact h4
  · simp only [D.py, PyData.depth]; omega
theorem Sm.lst' {m k' : Nat} {ds : List D} (h : ∀ d ∈ ds, Sm B n k d) (hm : ds.length ≤ m) (hk : k + 1 ≤ k') : Sm B (m * (n + 1)) k' (.lst ds) := (Sm.lst h).mono (Nat.mul_le_mul_right _ hm) hk
theorem Sm.tup' {m k' : Nat} {ds : List D} (h : ∀ d ∈ ds, Sm B n k d) (hm : ds.length ≤ m) (hk : k + 1 ≤ k') : Sm B (m * (n + 1)) k' (.tup ds) := (Sm.tup h).mono (Nat.mul_le_mul_right _ hm) hk
end
/-- plain comparisons of texts -/
theorem okEq_str (x y : Str) : okEq (.str x) (.str y) = true := by
  simp [okEq, D.isD, D.py, sf, PyData.depth]
theorem okNe_str (x y : Str) : okNe (.str x) (.str y) = true := by
  simp [okNe, D.flat, D.isD, D.py, PyData.plain, PyData.depth]
theorem okNe_int (x y : Int) : okNe (.int x) (.int y) = true := by
  simp [okNe, D.flat, D.isD, D.py, PyData.plain, PyData.depth]
theorem eq_str (x y : Str) : (D.str x).eq (.str y) = decide (x = y) := by
  simp [D.eq, D.py, eqd, PyData.eqv, Bool.beq_eq_decide_eq]
theorem okEq_int (x y : Int) : okEq (.int x) (.int y) = true := by
  simp [okEq, D.isD, D.py, sf, PyData.depth]
theorem eq_int (x y : Int) : (D.int x).eq (.int y) = decide (x = y) := by
  simp [D.eq, D.py, eqd, PyData.eqv, Bool.beq_eq_decide_eq]
/-! ### sorted texts -/
theorem okSort_strs {xs : List D} (h : ∀ d ∈ xs, ∃ x, d = .str x) (hl : xs.length ≤ sizeLine) : okSort xs := by
  refine ⟨.inl ⟨fun d hd d' hd' => ?_, .inr fun d hd => ?_⟩, fun d hd => ?_, hl⟩
  · obtain ⟨a, ha, rfl⟩ := List.mem_map.mp hd
    obtain ⟨b, hb, rfl⟩ := List.mem_map.mp hd'
    obtain ⟨x, rfl⟩ := h a ha
    obtain ⟨y, rfl⟩ := h b hb
    rfl
  · obtain ⟨a, ha, rfl⟩ := List.mem_map.mp hd
    obtain ⟨x, rfl⟩ := h a ha
    refine ⟨fun z => ?_, fun ys z => ?_⟩
    · simp only [D.py] at z; cases z
    · simp only [D.py] at z; cases z
  · obtain ⟨x, rfl⟩ := h d hd
    exact ⟨rfl, Nat.zero_le _⟩
theorem sortD_len (xs : List D) : (sortD xs).length = xs.length := List.length_mergeSort xs
theorem sortD_mem {xs : List D} {d : D} : d ∈ sortD xs ↔ d ∈ xs := List.mem_mergeSort
end Pz

set_option maxRecDepth 100000
set_option maxHeartbeats 4000000
/-! Pz, part 21: reading a short form, step by step. -/
namespace Pz
open PySem L2 PySem.Spec PyProof.Rows

section
variable {ρ : S} {R : Res → S → Prop} {K : Bool → Prop} {i j : Nat} {x y : D} {xs ys : List D} {ks : List Key} {b : B} {z : Str} {o : O} {os : List O} {Q : Res → Prop}
theorem zfz_d : (Res.d x).fz = .d x := rfl
theorem zfz_l : (Res.l xs).fz = .d (.lst xs) := rfl
theorem zfz_m : (Res.m ks xs).fz = .d (.dic ks xs) := rfl
theorem zfz_p : (Res.p i).fz = .p i := rfl
def datO : Option (Option B) → Option D
  | some (some b) => some b.dat
  | _ => none
theorem zdatO : datO (some (some b)) = some b.dat := rfl
theorem zdat_d : (B.d x).dat = x := rfl
theorem zdat_l : (B.l xs).dat = .lst xs := rfl
theorem zdat_m : (B.m ks xs).dat = .dic ks xs := rfl
theorem zlook_d : O.look ρ (.d x) = some x := rfl
theorem zlook_p : O.look ρ (.p i) = datO ρ.v[i]? := by
  show (match ρ.v[i]? with
    | some (some x) => some x.dat
    | _ => none) = _
  unfold datO
  rcases ρ.v[i]? with _ | _ | b <;> rfl
theorem zofz_d : O.fz ρ (.d x) = ρ := rfl
theorem zofz_p : O.fz ρ (.p i) = ρ.fz i := rfl
def fzO : Option (Option B) → Nat → S → S
  | some (some b), i, ρ => ⟨ρ.v.set i (some (.d b.dat)), ρ.k⟩
  | _, _, ρ => ρ
theorem zfzO : fzO (some (some b)) i ρ = ⟨ρ.v.set i (some (.d b.dat)), ρ.k⟩ := rfl
theorem zfz : ρ.fz i = fzO ρ.v[i]? i ρ := by
  unfold S.fz fzO
  rcases ρ.v[i]? with _ | _ | b <;> rfl
def consO : Option D → Option (List D) → Option (List D)
  | some x, some xs => some (x :: xs)
  | _, _ => none
theorem zconsO : consO (some x) (some xs) = some (x :: xs) := rfl
theorem zlooks_nil : looks ρ [] = some [] := rfl
theorem zlooks_cons : looks ρ (o :: os) = consO (o.look ρ) (looks ρ os) := by
  show (match o.look ρ, looks ρ os with
    | some x, some xs => some (x :: xs)
    | _, _ => none) = _
  rcases o.look ρ with _ | x <;> rcases looks ρ os with _ | xs <;> rfl
theorem zfzs_nil : fzs ρ [] = ρ := rfl
theorem zfzs_cons : fzs ρ (o :: os) = fzs (o.fz ρ) os := rfl
def wvO : Option (Option B) → Nat → S → (Res → S → Prop) → Prop
  | some (some (.d x)), _, ρ, R => R (.d x) ρ
  | some (some (.l _)), i, ρ, R => R (.p i) ρ
  | some (some (.m _ _)), i, ρ, R => R (.p i) ρ
  | _, _, _, _ => False
theorem zwvO_d : wvO (some (some (.d x))) i ρ R = R (.d x) ρ := rfl
theorem zwvO_l : wvO (some (some (.l xs))) i ρ R = R (.p i) ρ := rfl
theorem zwvO_m : wvO (some (some (.m ks xs))) i ρ R = R (.p i) ρ := rfl
theorem zwv : wv i ρ R = wvO ρ.v[i]? i ρ R := by
  unfold wv wvO
  rcases ρ.v[i]? with _ | _ | b
  · rfl
  · rfl
  · cases b <;> rfl
theorem zset : ρ.set i b = ⟨ρ.v.set i (some b), ρ.k⟩ := rfl
theorem zput_d : ρ.put i (.d x) = ⟨ρ.v.set i (some (.d x)), ρ.k⟩ := rfl
theorem zput_l : ρ.put i (.l xs) = ⟨ρ.v.set i (some (.l xs)), ρ.k⟩ := rfl
theorem zput_m : ρ.put i (.m ks xs) = ⟨ρ.v.set i (some (.m ks xs)), ρ.k⟩ := rfl
def putO : Option D → Nat → Nat → S → S
  | some x, i, j, ρ => (ρ.fz j).set i (.d x)
  | none, _, _, ρ => ρ
theorem zputO : putO (some x) i j ρ = (ρ.fz j).set i (.d x) := rfl
theorem zput_p : ρ.put i (.p j) = putO (O.look ρ (.p j)) i j ρ := by
  show (match O.look ρ (.p j) with
    | some x => S.set (ρ.fz j) i (B.d x)
    | none => ρ) = _
  rcases O.look ρ (.p j) with _ | x <;> rfl
theorem zpush_d : ρ.push (.d x) = ⟨ρ.v ++ [some (.d x)], ρ.k⟩ := rfl
theorem zpush_l : ρ.push (.l xs) = ⟨ρ.v ++ [some (.l xs)], ρ.k⟩ := rfl
theorem zpush_m : ρ.push (.m ks xs) = ⟨ρ.v ++ [some (.m ks xs)], ρ.k⟩ := rfl
def pushO : Option D → Nat → S → S
  | some x, i, ρ => ⟨(ρ.fz i).v ++ [some (.d x)], ρ.k⟩
  | none, _, ρ => ⟨ρ.v ++ [none], ρ.k⟩
theorem zpushO : pushO (some x) i ρ = ⟨(ρ.fz i).v ++ [some (.d x)], ρ.k⟩ := rfl
theorem zpush_p : ρ.push (.p i) = pushO (O.look ρ (.p i)) i ρ := by
  show (match O.look ρ (.p i) with
    | some x => S.mk ((ρ.fz i).v ++ [some (B.d x)]) ρ.k
    | none => S.mk (ρ.v ++ [none]) ρ.k) = _
  rcases O.look ρ (.p i) with _ | x <;> rfl
theorem zmvs_nil : ρ.mvs [] = ρ := rfl
theorem zmvs_cons {is : List Nat} : ρ.mvs (i :: is) = (ρ.mv i).mvs is := rfl
theorem zout_d : (Res.d x).out ρ = some (.d x) := rfl
theorem zout_l : (Res.l xs).out ρ = some (.l xs) := rfl
theorem zout_m : (Res.m ks xs).out ρ = some (.m ks xs) := rfl
def outO : Option (Option B) → Option Res
  | some (some (.d x)) => some (.d x)
  | some (some (.l xs)) => some (.l xs)
  | some (some (.m ks xs)) => some (.m ks xs)
  | _ => none
theorem zoutO_d : outO (some (some (.d x))) = some (.d x) := rfl
theorem zoutO_l : outO (some (some (.l xs))) = some (.l xs) := rfl
theorem zoutO_m : outO (some (some (.m ks xs))) = some (.m ks xs) := rfl
theorem zout_p : (Res.p i).out ρ = outO ρ.v[i]? := by
  show (match ρ.v[i]? with
    | some (some (.d x)) => some (Res.d x)
    | some (some (.l xs)) => some (Res.l xs)
    | some (some (.m ks xs)) => some (Res.m ks xs)
    | _ => none) = _
  unfold outO
  rcases ρ.v[i]? with _ | _ | b
  · rfl
  · rfl
  · cases b <;> rfl
theorem ztru_non : tru .non K = K false := rfl
theorem ztru_bl {c : Bool} : tru (.bl c) K = K c := rfl
theorem ztru_int {n : Int} : tru (.int n) K = K (n != 0) := rfl
theorem ztru_str : tru (.str z) K = (z.length ≤ sizeLine ∧ K ((z.length : Int) != 0)) := rfl
theorem ztru_lst : tru (.lst xs) K = K (!xs.isEmpty) := rfl
theorem ztru_tup : tru (.tup xs) K = K (!xs.isEmpty) := rfl
theorem ztru_dic : tru (.dic ks xs) K = K (!ks.isEmpty) := rfl
theorem zadd_i {m n : Int} : fAdd (.int m) (.int n) Q = Q (.d (.int (m + n))) := rfl
theorem zadd_s {z' : Str} : fAdd (.str z) (.str z') Q = (z.length + z'.length ≤ sizeLine ∧ Q (.d (.str (z ++ z')))) := rfl
theorem zadd_l : fAdd (.lst xs) (.lst ys) Q = (xs.length + ys.length ≤ sizeLine ∧ Q (.l (xs ++ ys))) := rfl
theorem zadd_t : fAdd (.tup xs) (.tup ys) Q = (xs.length + ys.length ≤ sizeLine ∧ Q (.d (.tup (xs ++ ys)))) := rfl
theorem zsub {m n : Int} : fSub (.int m) (.int n) Q = Q (.d (.int (m - n))) := rfl
theorem zmul_i {m n : Int} : fMul (.int m) (.int n) Q = (CMul m n ∧ Q (.d (.int (m * n)))) := rfl
theorem zmul_l {n : Int} : fMul (.lst xs) (.int n) Q = ((-(2 ^ 63) ≤ n ∧ n < 2 ^ 63 ∧ xs.length * n.toNat ≤ sizeLine) ∧ Q (.l (List.replicate n.toNat xs).flatten)) := rfl
theorem zmul_s {n : Int} : fMul (.str z) (.int n) Q = ((-(2 ^ 63) ≤ n ∧ n < 2 ^ 63 ∧ z.length * n.toNat ≤ sizeLine) ∧ Q (.d (.str (strRep z n)))) := rfl
theorem zmul_t {n : Int} : fMul (.tup xs) (.int n) Q = ((xs ≠ [] ∧ 2 ≤ n ∧ n ≤ 1000 ∧ xs.length ≤ 1000) ∧ Q (.d (.tup (List.replicate n.toNat xs).flatten))) := rfl
theorem zdiv {m n : Int} : fDiv (.int m) (.int n) Q = (CDiv m n ∧ Q (.d (.int (m / n)))) := rfl
theorem zmod {m n : Int} : fMod (.int m) (.int n) Q = (0 < n ∧ Q (.d (.int (m % n)))) := rfl
theorem zpow {m n : Int} : fPow (.int m) (.int n) Q = (CPow m n ∧ Q (.d (.int (m ^ n.toNat)))) := rfl
theorem zneg {m : Int} : fNeg (.int m) Q = Q (.d (.int (-m))) := rfl
theorem zlt_i {m n : Int} : fLt (.int m) (.int n) Q = Q (.d (.bl (decide (m < n)))) := rfl
theorem zle_i {m n : Int} : fLe (.int m) (.int n) Q = Q (.d (.bl (decide (m ≤ n)))) := rfl
theorem zgt_i {m n : Int} : fGt (.int m) (.int n) Q = Q (.d (.bl (decide (n < m)))) := rfl
theorem zge_i {m n : Int} : fGe (.int m) (.int n) Q = Q (.d (.bl (decide (n ≤ m)))) := rfl
theorem zlt_s {z' : Str} : fLt (.str z) (.str z') Q = Q (.d (.bl (ltS z z'))) := rfl
theorem zle_s {z' : Str} : fLe (.str z) (.str z') Q = Q (.d (.bl (!ltS z' z))) := rfl
theorem zgt_s {z' : Str} : fGt (.str z) (.str z') Q = Q (.d (.bl (ltS z' z))) := rfl
theorem zge_s {z' : Str} : fGe (.str z) (.str z') Q = Q (.d (.bl (!ltS z z'))) := rfl
theorem zeq_i {m n : Int} : fEq (.int m) (.int n) Q = Q (.d (.bl (decide (m = n)))) := by
  unfold fEq; rw [okEq_int, eq_int]; simp
theorem zne_i {m n : Int} : fNe (.int m) (.int n) Q = Q (.d (.bl (!decide (m = n)))) := by
  unfold fNe; rw [okNe_int, eq_int]; simp
theorem zeq_s {z' : Str} : fEq (.str z) (.str z') Q = Q (.d (.bl (decide (z = z')))) := by
  unfold fEq; rw [okEq_str, eq_str]; simp
theorem zne_s {z' : Str} : fNe (.str z) (.str z') Q = Q (.d (.bl (!decide (z = z')))) := by
  unfold fNe; rw [okNe_str, eq_str]; simp
theorem zis {neg : Bool} : fIs neg x .non Q = Q (.d (.bl (neg ^^ x.isNon))) := by cases x <;> rfl
theorem zis_b {neg c e : Bool} : fIs neg (.bl c) (.bl e) Q = Q (.d (.bl (neg ^^ decide (c = e)))) := rfl
theorem zix_l {n : Int} : fIx (.lst xs) (.int n) Q = ∃ d, atI xs n = some d ∧ Q (.d d) := rfl
theorem zix_t {n : Int} : fIx (.tup xs) (.int n) Q = ∃ d, atI xs n = some d ∧ Q (.d d) := rfl
theorem zix_s {n : Int} : fIx (.str z) (.int n) Q = ∃ c, z.length ≤ sizeLine ∧ atI z.cps.toList n = some c ∧ Q (.d (.str ⟨#[c]⟩)) := rfl
theorem zsl_l {lo hi : Option Int} : fSl (.lst xs) lo hi Q = Q (.l (cutD xs lo hi)) := rfl
theorem zsl_t {lo hi : Option Int} : fSl (.tup xs) lo hi Q = Q (.d (.tup (cutD xs lo hi))) := rfl
theorem zsl_s {lo hi : Option Int} : fSl (.str z) lo hi Q = (z.length ≤ sizeLine ∧ Q (.d (.str (cutS z lo hi)))) := rfl
theorem zlen_s : gLen [.str z] Q = (z.length ≤ sizeLine ∧ Q (.d (.int z.length))) := rfl
theorem zlen_l : gLen [.lst xs] Q = Q (.d (.int xs.length)) := rfl
theorem zlen_t : gLen [.tup xs] Q = Q (.d (.int xs.length)) := rfl
theorem zlen_d : gLen [.dic ks xs] Q = Q (.d (.int ks.length)) := rfl
theorem ztup_l : gTuple [.lst xs] Q = Q (.d (.tup xs)) := rfl
theorem ztup_t : gTuple [.tup xs] Q = Q (.d (.tup xs)) := rfl
theorem zlist_l : gList [.lst xs] Q = Q (.l xs) := rfl
theorem zlist_t : gList [.tup xs] Q = Q (.l xs) := rfl
theorem zmaxS {x y : Str} : gMaxA [.str x, .str y] Q = Q (.d (.str (if ltS x y then y else x))) := rfl
theorem zminS {x y : Str} : gMinA [.str x, .str y] Q = Q (.d (.str (if ltS y x then y else x))) := rfl
theorem zrev_l {xs : List D} : fRev (.lst xs) Q = Q (.l xs.reverse) := rfl
theorem zrev_t {xs : List D} : fRev (.tup xs) Q = Q (.d (.tup xs.reverse)) := rfl
theorem zmax {m n : Int} : gMaxA [.int m, .int n] Q = Q (.d (.int (if n > m then n else m))) := rfl
theorem zmin {m n : Int} : gMinA [.int m, .int n] Q = Q (.d (.int (if n < m then n else m))) := rfl
theorem zall : gAll [.lst xs] Q = ∃ ns : List Bool, xs = ns.map D.bl ∧ Q (.d (.bl (ns.all id))) := rfl
theorem zany : gAny [.lst xs] Q = ∃ ns : List Bool, xs = ns.map D.bl ∧ Q (.d (.bl (ns.any id))) := rfl
theorem zsum : gSum [.lst xs] Q = ∃ ns : List Int, xs = ns.map D.int ∧ Q (.d (.int ns.sum)) := rfl
theorem zsorted : gSorted [.lst xs] Q = (okSort xs ∧ Q (.l (sortD xs))) := rfl
theorem zrepr : gRepr [x] Q = (okShow x = true ∧ x.py.shown.length ≤ sizeLine ∧ Q (.d (.str x.py.shown))) := rfl
theorem zset_nm : Tg.set (.nm i) x ρ = some (ρ.set i (.d x)) := rfl
theorem zset_tt {ts : List Tg} : Tg.set (.tup ts) (.tup xs) ρ = Tg.sets ts xs ρ := rfl
theorem zset_tl {ts : List Tg} : Tg.set (.tup ts) (.lst xs) ρ = Tg.sets ts xs ρ := rfl
theorem zsets_nil : Tg.sets [] [] ρ = some ρ := rfl
theorem zsets_cons {t : Tg} {ts : List Tg} : Tg.sets (t :: ts) (x :: xs) ρ = (t.set x ρ).bind fun ρ' => Tg.sets ts xs ρ' := by
  show (match t.set x ρ with
    | some ρ' => Tg.sets ts xs ρ'
    | none => none) = _
  rcases t.set x ρ with _ | r <;> rfl
def seqK : D → (List D → Prop) → Prop
  | .lst xs, K => K xs
  | .tup xs, K => K xs
  | .str z, K => K (z.cps.toList.map fun c => .str ⟨#[c]⟩)
  | _, _ => False
theorem zseqK_l {K : List D → Prop} : seqK (.lst xs) K = K xs := rfl
theorem zseqK_t {K : List D → Prop} : seqK (.tup xs) K = K xs := rfl
theorem zseqK_s {K : List D → Prop} : seqK (.str z) K = K (z.cps.toList.map fun c => .str ⟨#[c]⟩) := rfl
theorem zseq {a : W} {K : List D → S → Prop} : wiSeq a ρ K = a ρ fun r ρ' => ∃ x, r.fz.look ρ' = some x ∧ seqK x fun xs => K xs (r.fz.fz ρ') := by
  unfold wiSeq
  congr 1
  funext r ρ'
  congr 1
  funext x
  cases x <;> rfl
theorem zcall_pu {dk : Option (Addr × Addr)} {pf : List D → (Res → Prop) → Prop} {t : WA} : wCall dk (.pu pf) t ρ R = t ρ fun os ρ' => ∃ ds, looks ρ' os = some ds ∧ pf ds fun z => R z (fzs ρ' os) := rfl
def dkK (p : Addr) : List D → (List D → Prop) → Prop
  | .cst (.ref q) :: es, K => p = q ∧ K es
  | _, _ => False
theorem zdkK {p q : Addr} {K : List D → Prop} : dkK p (.cst (.ref q) :: xs) K = (p = q ∧ K xs) := rfl
theorem zcall_dk {p c : Addr} {pf : List D → Nat → (Res → Nat → Prop) → Prop} {t : WA} : wCall (some (p, c)) (.dk pf) t ρ R = t ρ fun os ρ' => ∃ ds, looks ρ' os = some ds ∧ dkK p ds fun es => pf es ρ'.k fun z k => R z ⟨(fzs ρ' os).v, k⟩ := by
  show (t ρ fun os ρ' => ∃ ds, looks ρ' os = some ds ∧ match some (p, c), ds with
    | some (p, _), .cst (.ref q) :: es => p = q ∧ pf es ρ'.k fun z k => R z { fzs ρ' os with k := k }
    | _, _ => False) = _
  congr 1
  funext os ρ'
  congr 1
  funext ds
  rcases ds with _ | ⟨d, es⟩
  · rfl
  · cases d with
    | cst v => cases v <;> rfl
    | _ => rfl
theorem zfor_nil {g : WG} {b : WS} {c : C} : forGo g b [] ρ c = c.nx ρ := rfl
theorem zfor_cons {g : WG} {b : WS} {c : C} : forGo g b (x :: xs) ρ c = ∃ ρ', g x ρ = some ρ' ∧ b ρ' { nx := fun ρ2 => forGo g b xs ρ2 c, ct := fun ρ2 => forGo g b xs ρ2 c, rt := c.rt, bk := c.nx } := rfl
theorem zlc_nil {g : WG} {vs : List Nat} {tt : WT} {te : W} {acc : List D} : lcGo g vs tt te [] acc ρ R = R (.l acc) ρ := rfl
theorem zlc_cons {g : WG} {vs : List Nat} {tt : WT} {te : W} {acc : List D} : lcGo g vs tt te (x :: xs) acc ρ R = ∃ ρ', g x (ρ.uns vs) = some ρ' ∧ tt ρ' fun b ρ2 => if b = true then te ρ2 fun r ρ3 => ∃ d, r.fz.look ρ3 = some d ∧ acc.length < sizeLine ∧ lcGo g vs tt te xs (acc ++ [d]) (ρ.back (r.fz.fz ρ3) vs) R
      else lcGo g vs tt te xs acc (ρ.back ρ2 vs) R := rfl
theorem zuns_nil : ρ.uns [] = ρ := rfl
theorem zuns_cons {vs : List Nat} : ρ.uns (i :: vs) = ⟨(ρ.uns vs).v.set i none, (ρ.uns vs).k⟩ := rfl
def bkO : Option (Option B) → Option B
  | some (some (.d x)) => some (.d x)
  | _ => none
theorem zbkO_d : bkO (some (some (.d x))) = some (.d x) := rfl
theorem zbkO_l : bkO (some (some (.l xs))) = none := rfl
theorem zbkO_m : bkO (some (some (.m ks xs))) = none := rfl
theorem zbkO_n : bkO (some none) = none := rfl
theorem zbkO_0 : bkO none = none := rfl
theorem zback_nil {ρ' : S} : ρ.back ρ' [] = ρ' := rfl
theorem zback_cons {ρ' : S} {vs : List Nat} : ρ.back ρ' (i :: vs) = ⟨(ρ.back ρ' vs).v.set i (bkO ρ.v[i]?), (ρ.back ρ' vs).k⟩ := by
  show S.back1 ρ (ρ.back ρ' vs) i = _
  unfold S.back1 bkO
  rcases ρ.v[i]? with _ | _ | b
  · rfl
  · rfl
  · cases b <;> rfl
/-- a walk of a list of its own names' places that nothing else has -/
theorem kbs (b : Bool) : (b = true) = (b = true) := rfl
end
end Pz

set_option maxRecDepth 100000
set_option maxHeartbeats 4000000
/-! Pz, part 22: loops by what stays true. -/
namespace Pz
open PySem L2 PySem.Spec PyProof.Rows

def lcStep (g : WG) (vs : List Nat) (tt : WT) (te : W) (x : D) (acc : List D) (ρ : S) (Kc : List D → S → Prop) : Prop :=
  ∃ ρ', g x (ρ.uns vs) = some ρ' ∧ tt ρ' fun b ρ2 => if b = true then te ρ2 fun r ρ3 => ∃ d, r.fz.look ρ3 = some d ∧ acc.length < sizeLine ∧ Kc (acc ++ [d]) (ρ.back (r.fz.fz ρ3) vs) else Kc acc (ρ.back ρ2 vs)
section
variable {g : WG} {vs : List Nat} {tt : WT} {te : W} {ρ : S} {R : Res → S → Prop} {xs : List D}
theorem lcg_inv (I : Nat → List D → S → Prop) (h0 : I 0 [] ρ) (h : ∀ i x acc ρ (Kc : List D → S → Prop), xs[i]? = some x → I i acc ρ → (∀ acc' ρ', I (i + 1) acc' ρ' → Kc acc' ρ') → lcStep g vs tt te x acc ρ Kc)
    (hR : ∀ acc ρ, I xs.length acc ρ → R (.l acc) ρ) : lcGo g vs tt te xs [] ρ R := by
  have key : ∀ (n : Nat) (acc : List D) (ρ : S), n ≤ xs.length → I n acc ρ → lcGo g vs tt te (xs.drop n) acc ρ R := by
    intro n
    generalize hm : xs.length - n = m
    induction m generalizing n with
    | zero =>
      intro acc ρ hn hi
      have e : n = xs.length := by omega
      subst e
      rw [List.drop_length]
      exact hR acc ρ hi
    | succ m ih =>
      intro acc ρ hn hi
      have hlt : n < xs.length := by omega
      rw [List.drop_eq_getElem_cons hlt]
      exact h n xs[n] acc ρ (fun acc' ρ' => lcGo g vs tt te (xs.drop (n + 1)) acc' ρ' R) (by simp [hlt]) hi fun acc' ρ' hi' => ih (n + 1) (by omega) acc' ρ' hlt hi'
  exact key 0 [] ρ (Nat.zero_le _) h0
/-- nothing changes but the new list -/
theorem lc_pure (f : D → D) (p : D → Bool) (h : ∀ x ∈ xs, ∀ (acc : List D) (Kc : List D → S → Prop), acc.length < sizeLine → Kc (if p x = true then acc ++ [f x] else acc) ρ → lcStep g vs tt te x acc ρ Kc)
    (hl : xs.length ≤ sizeLine) (hR : R (.l ((xs.filter p).map f)) ρ) : lcGo g vs tt te xs [] ρ R := by
  refine lcg_inv (fun i acc ρ' => ρ' = ρ ∧ acc = ((xs.take i).filter p).map f) ⟨rfl, by simp⟩ (fun i x acc ρ' Kc hx ⟨e, ea⟩ hK => ?_) fun acc ρ' ⟨e, ea⟩ => ?_
  · subst e
    have hi := (List.getElem?_eq_some_iff.mp hx).1
    have hxe := (List.getElem?_eq_some_iff.mp hx).2
    refine h x (List.mem_of_getElem? hx) acc Kc ?_ ?_
    · rw [ea, List.length_map]
      have := List.length_filter_le p (xs.take i)
      rw [List.length_take] at this
      omega
    · refine hK _ _ ⟨rfl, ?_⟩
      rw [List.take_add_one, hx, ea]
      simp only [Option.toList_some, List.filter_append, List.map_append]
      by_cases hp : p x = true
      · rw [if_pos hp, List.filter_cons_of_pos hp]; rfl
      · rw [if_neg hp, List.filter_cons_of_neg hp]; simp
  · subst e
    rw [List.take_length] at ea
    rw [ea]; exact hR
theorem lcg_map (f : D → D) (h : ∀ x ∈ xs, ∀ (acc : List D) (Kc : List D → S → Prop), acc.length < sizeLine → Kc (acc ++ [f x]) ρ → lcStep g vs tt te x acc ρ Kc) (hl : xs.length ≤ sizeLine) (hR : R (.l (xs.map f)) ρ) : lcGo g vs tt te xs [] ρ R := by
  refine lc_pure f (fun _ => true) (fun x hx acc Kc hz hK => h x hx acc Kc hz (by simpa using hK)) hl ?_
  have e : xs.filter (fun _ => true) = xs := List.filter_eq_self.mpr (by simp)
  rw [e]; exact hR
end
section
variable {g : WG} {b : WS} {ρ : S} {c : C} {xs : List D}
theorem for_inv (I : Nat → S → Prop) (h0 : I 0 ρ) (h : ∀ i x ρ (Kn : S → Prop), xs[i]? = some x → I i ρ → (∀ ρ', I (i + 1) ρ' → Kn ρ') → ∃ ρ', g x ρ = some ρ' ∧ b ρ' { nx := Kn, ct := Kn, rt := c.rt, bk := c.nx })
    (hn : ∀ ρ, I xs.length ρ → c.nx ρ) : forGo g b xs ρ c := by
  have key : ∀ (n : Nat) (ρ : S), n ≤ xs.length → I n ρ → forGo g b (xs.drop n) ρ c := by
    intro n
    generalize hm : xs.length - n = m
    induction m generalizing n with
    | zero =>
      intro ρ hn' hi
      have e : n = xs.length := by omega
      subst e
      rw [List.drop_length]
      exact hn ρ hi
    | succ m ih =>
      intro ρ hn' hi
      have hlt : n < xs.length := by omega
      rw [List.drop_eq_getElem_cons hlt]
      exact h n xs[n] ρ (fun ρ' => forGo g b (xs.drop (n + 1)) ρ' c) (by simp [hlt]) hi fun ρ' hi' => ih (n + 1) (by omega) ρ' hlt hi'
  exact key 0 ρ (Nat.zero_le _) h0
end
theorem isDL_mem : ∀ {xs : List D}, D.isDL xs = true → ∀ d ∈ xs, d.isD = true
  | x :: xs, h, d, hd => by
    simp only [D.isDL, Bool.and_eq_true] at h
    rcases List.mem_cons.mp hd with rfl | hd
    · exact h.1
    · exact isDL_mem h.2 d hd
theorem rngL_get {lo : Int} {n i : Nat} {x : D} (h : (rngL lo n)[i]? = some x) : i < n ∧ x = .int (lo + i) := by
  unfold rngL at h
  rw [List.getElem?_map] at h
  by_cases hi : i < n
  · rw [List.getElem?_range hi] at h
    exact ⟨hi, (Option.some.inj h).symm⟩
  · rw [List.getElem?_eq_none (by simp; omega)] at h; cases h
theorem rngL_len {lo : Int} {n : Nat} : (rngL lo n).length = n := by simp [rngL]
theorem zat0 {α : Type} {x : α} {xs : List α} : atI (x :: xs) 0 = some x := by
  unfold atI ixN
  rw [if_pos (by decide), if_pos (by simp)]; rfl
theorem zat1 {α : Type} {x y : α} {xs : List α} : atI (x :: y :: xs) 1 = some y := by
  unfold atI ixN
  rw [if_pos (by decide), if_pos (by simp; omega)]; rfl
theorem zat2 {α : Type} {x y z : α} {xs : List α} : atI (x :: y :: z :: xs) 2 = some z := by
  unfold atI ixN
  rw [if_pos (by decide), if_pos (by simp; omega)]; rfl
theorem zat3 {α : Type} {x y z u : α} {xs : List α} : atI (x :: y :: z :: u :: xs) 3 = some u := by
  unfold atI ixN
  rw [if_pos (by decide), if_pos (by simp; omega)]; rfl
theorem atI_ok {α : Type} {xs : List α} {i : Int} (h0 : 0 ≤ i) (h1 : i < xs.length) : ∃ x, atI xs i = some x ∧ x ∈ xs ∧ xs[i.toNat]? = some x := by
  have hi : i.toNat < xs.length := by omega
  refine ⟨xs[i.toNat], ?_, List.getElem_mem hi, by simp [hi]⟩
  unfold atI ixN
  rw [if_pos h0, if_pos h1]
  simp [hi]
/-! ### texts -/
theorem zm_split {a b : Str} {R : Res → Prop} : Mth.fn .split [.str a, .str b] R = (((b.length == 0) = false ∧ a.length + 2 ≤ sizeLine) ∧ R (.l ((Txt.split a b).map .str))) := rfl
theorem zm_words {a : Str} {R : Res → Prop} : Mth.fn .words [.str a] R = (a.length + 2 ≤ sizeLine ∧ R (.l ((Txt.words a).map .str))) := rfl
theorem zm_join_l {a : Str} {ds : List D} {R : Res → Prop} : Mth.fn .join [.str a, .lst ds] R = joinOk a ds R := rfl
theorem zm_join_t {a : Str} {ds : List D} {R : Res → Prop} : Mth.fn .join [.str a, .tup ds] R = joinOk a ds R := rfl
theorem zm_upper {a : Str} {R : Res → Prop} : Mth.fn .upper [.str a] R = (a.length ≤ 5592405 ∧ R (.d (.str (Txt.upper a)))) := rfl
theorem zm_lower {a : Str} {R : Res → Prop} : Mth.fn .lower [.str a] R = (a.length ≤ 5592405 ∧ R (.d (.str (Txt.lower a)))) := rfl
/-- signs below 128, at most n of them -/
def Low (n : Nat) (x : Str) : Prop := (∀ c ∈ x.cps.toList, c < 128) ∧ x.length ≤ n
theorem Low.add {n m : Nat} {x y : Str} (h : Low n x) (g : Low m y) : Low (n + m) (x ++ y) := by
  have e : (x ++ y).cps = x.cps ++ y.cps := rfl
  refine ⟨fun c hc => ?_, ?_⟩
  · rw [e, Array.toList_append] at hc
    rcases List.mem_append.mp hc with z | z
    · exact h.1 c z
    · exact g.1 c z
  · show (x ++ y).cps.size ≤ _
    rw [e, Array.size_append]
    have h2 : x.cps.size ≤ n := h.2
    have g2 : y.cps.size ≤ m := g.2
    omega
theorem Low.mono {n m : Nat} {x : Str} (h : Low n x) (e : n ≤ m) : Low m x := ⟨h.1, Nat.le_trans h.2 e⟩
theorem rep_mem (y : Array Nat) : ∀ (n : Nat) (acc : Array Nat) (c : Nat), c ∈ (List.foldl (fun x1 x2 => x1 ++ x2) acc (List.replicate n y)).toList → c ∈ acc.toList ∨ c ∈ y.toList
  | 0, acc, c, h => .inl h
  | n + 1, acc, c, h => by
    rw [List.replicate_succ, List.foldl_cons] at h
    rcases rep_mem y n _ c h with z | z
    · rw [Array.toList_append] at z
      exact List.mem_append.mp z
    · exact .inr z
theorem Low.rep {n : Nat} {x : Str} (h : Low n x) (k : Int) : Low (n * k.toNat + n) (strRep x k) := by
  unfold strRep
  split
  · refine ⟨fun c hc => ?_, Nat.zero_le _⟩
    have hc : c ∈ ([] : List Nat) := hc
    cases hc
  · split
    · exact h.mono (by omega)
    · refine ⟨fun c hc => ?_, ?_⟩
      · rcases rep_mem _ _ _ c hc with z | z
        · cases z
        · exact h.1 c z
      · show (List.foldl (fun x1 x2 => x1 ++ x2) #[] (List.replicate k.toNat x.cps)).size ≤ _
        rw [rep_size]
        have h2 : x.cps.size ≤ n := h.2
        have : k.toNat * x.cps.size ≤ k.toNat * n := Nat.mul_le_mul_left _ h2
        have e0 : (#[] : Array Nat).size = 0 := rfl
        rw [e0, Nat.mul_comm n]
        omega
theorem Low.cut {n : Nat} {x : Str} (h : Low n x) (lo hi : Option Int) : Low n (cutS x lo hi) := by
  unfold cutS
  refine ⟨fun c hc => h.1 c ?_, ?_⟩
  · have hc : c ∈ (((x.cps.toList.drop (HT.sIx x.length 0 lo)).take (HT.sIx x.length x.length hi - HT.sIx x.length 0 lo)).toArray).toList := hc
    rw [List.toList_toArray] at hc
    exact List.mem_of_mem_drop (List.mem_of_mem_take hc)
  · show (((x.cps.toList.drop (HT.sIx x.length 0 lo)).take (HT.sIx x.length x.length hi - HT.sIx x.length 0 lo)).toArray).size ≤ _
    rw [List.size_toArray, List.length_take, List.length_drop]
    have h2 : x.cps.size ≤ n := h.2
    have e : x.cps.toList.length = x.cps.size := Array.length_toList
    omega
theorem Low.one {c : Nat} (h : c < 128) : Low 1 ⟨#[c]⟩ := ⟨fun d hd => by
  have : d = c := by simpa using hd
  rw [this]; exact h, Nat.le_refl _⟩
end Pz

set_option maxRecDepth 100000
set_option maxHeartbeats 4000000
/-! Pz, part 35: more lemmas for reading. -/
namespace Pz
open PySem L2 PySem.Spec PyProof.Rows
section
variable {x y : D} {xs ys : List D} {ks : List Key} {a z : Str} {Q : Res → Prop} {neg : Bool}
theorem zadd_b {b : Bool} {j : Int} : fAdd (.bl b) (.int j) Q = Q (.d (.int (b01 b + j))) := rfl
theorem zsub_b {b : Bool} {j : Int} : fSub (.bl b) (.int j) Q = Q (.d (.int (b01 b - j))) := rfl
theorem zstr_i {i : Int} : gStr [.int i] Q = (i.natAbs.log2 < 1920 ∧ Q (.d (.str (toString i)))) := rfl
theorem zstr_b {b : Bool} : gStr [.bl b] Q = Q (.d (.str (if b then "True" else "False"))) := rfl
theorem zint_b {b : Bool} : gInt [.bl b] Q = Q (.d (.int (if b then 1 else 0))) := rfl
theorem zin_s : fIn neg (.str a) (.str z) Q = Q (.d (.bl (neg ^^ strIn a z))) := rfl
theorem zin_l : fIn neg x (.lst xs) Q = (okIn x xs = true ∧ Q (.d (.bl (neg ^^ inD x xs)))) := by cases x <;> rfl
theorem zin_t : fIn neg x (.tup xs) Q = (okIn x xs = true ∧ Q (.d (.bl (neg ^^ inD x xs)))) := by cases x <;> rfl
theorem zin_d : fIn neg x (.dic ks ys) Q = ∃ k, keyOf x = some k ∧ Q (.d (.bl (neg ^^ hasK ks k))) := by cases x <;> rfl
theorem zix_d {y : D} {ks : List Key} {xs : List D} {Q : Res → Prop} : fIx (.dic ks xs) y Q = ∃ k d, keyOf y = some k ∧ lookD ks xs k = some d ∧ Q (.d d) := by cases y <;> rfl
theorem zdict {xs : List D} {Q : Res → Prop} : gDict [.lst xs] Q = ∃ ps, pairsKD xs = some ps ∧ Q (.m (mrgD ps [] []).1 (mrgD ps [] []).2) := rfl
theorem zeq_g : fEq x y Q = (okEq x y = true ∧ Q (.d (.bl (x.eq y)))) := rfl
theorem zne_g : fNe x y Q = (okNe x y = true ∧ Q (.d (.bl (!x.eq y)))) := rfl
theorem bl_map {α : Type} (xs : List α) (f : α → Bool) : xs.map (fun d => D.bl (f d)) = (xs.map f).map D.bl := by simp
end
/-- a comprehension that only looks: the items that stay, and what becomes of them -/
theorem lc_map {g : WG} {vs : List Nat} {tt : WT} {te : W} {ρ : S} {R : Res → S → Prop} {α : Type} (ys : List α) (e : α → D) (f : α → D) (h : ∀ x ∈ ys, ∀ (acc : List D) (Kc : List D → S → Prop), acc.length < sizeLine → Kc (acc ++ [f x]) ρ → lcStep g vs tt te (e x) acc ρ Kc)
    (hl : ys.length ≤ sizeLine) (hR : R (.l (ys.map f)) ρ) : lcGo g vs tt te (ys.map e) [] ρ R := by
  refine lcg_inv (fun i acc ρ' => ρ' = ρ ∧ acc = (ys.take i).map f) ⟨rfl, by simp⟩ (fun i x acc ρ' Kc hx ⟨e1, ea⟩ hK => ?_) fun acc ρ' ⟨e1, ea⟩ => ?_
  · subst e1
    rw [List.getElem?_map] at hx
    cases hy : ys[i]? with
    | none => rw [hy] at hx; cases hx
    | some y =>
      rw [hy] at hx
      cases hx
      have hi := (List.getElem?_eq_some_iff.mp hy).1
      refine h y (List.mem_of_getElem? hy) acc Kc ?_ ?_
      · rw [ea, List.length_map, List.length_take]; omega
      · refine hK _ _ ⟨rfl, ?_⟩
        rw [List.take_add_one, hy, ea]
        simp
  · subst e1
    rw [List.length_map, List.take_length] at ea
    rw [ea]; exact hR
theorem lc_filter {g : WG} {vs : List Nat} {tt : WT} {te : W} {ρ : S} {R : Res → S → Prop} {α : Type} (ys : List α) (e : α → D) (f : α → D) (p : α → Bool) (h : ∀ x ∈ ys, ∀ (acc : List D) (Kc : List D → S → Prop), acc.length < sizeLine → Kc (if p x = true then acc ++ [f x] else acc) ρ → lcStep g vs tt te (e x) acc ρ Kc)
    (hl : ys.length ≤ sizeLine) (hR : R (.l ((ys.filter p).map f)) ρ) : lcGo g vs tt te (ys.map e) [] ρ R := by
  refine lcg_inv (fun i acc ρ' => ρ' = ρ ∧ acc = ((ys.take i).filter p).map f) ⟨rfl, by simp⟩ (fun i x acc ρ' Kc hx ⟨e1, ea⟩ hK => ?_) fun acc ρ' ⟨e1, ea⟩ => ?_
  · subst e1
    rw [List.getElem?_map] at hx
    cases hy : ys[i]? with
    | none => rw [hy] at hx; cases hx
    | some y =>
      rw [hy] at hx
      cases hx
      have hi := (List.getElem?_eq_some_iff.mp hy).1
      refine h y (List.mem_of_getElem? hy) acc Kc ?_ ?_
      · rw [ea, List.length_map]
        have := List.length_filter_le p (ys.take i)
        rw [List.length_take] at this
        omega
      · refine hK _ _ ⟨rfl, ?_⟩
        rw [List.take_add_one, hy, ea]
        simp only [Option.toList_some, List.filter_append, List.map_append]
        by_cases hp : p y = true
        · rw [if_pos hp, List.filter_cons_of_pos hp]; rfl
        · rw [if_neg hp, List.filter_cons_of_neg hp]; simp
  · subst e1
    rw [List.length_map, List.take_length] at ea
    rw [ea]; exact hR
end Pz

set_option maxRecDepth 100000
set_option maxHeartbeats 4000000
/-! Pb, part 1: names, buildings, in plain terms. -/
namespace Pz
open PySem L2 PySem.Spec PyProof.Rows
/-! ascending texts -/
theorem leS_lt (x y : Str) : leS x y = !ltS y x := by
  simp only [leS, ltS]
  by_cases h : y.cps.toList < x.cps.toList
  · rw [decide_eq_true h]
    have : ¬ x.cps.toList ≤ y.cps.toList := fun z => List.not_lt.mpr z h
    rw [decide_eq_false this]; rfl
  · rw [decide_eq_false h, decide_eq_true (List.not_lt.mp h)]; rfl
theorem ltS_le {x y : Str} (h : ltS x y = true) : leS x y = true := by
  simp only [leS, ltS, decide_eq_true_eq] at *
  exact List.le_of_lt h
theorem ltS_irr (x : Str) : ltS x x = false := by
  simp only [ltS, decide_eq_false_iff_not]
  exact List.lt_irrefl _
theorem ltS_ne {x y : Str} (h : ltS x y = true) : x ≠ y := fun e => by
  subst e; rw [ltS_irr] at h; cases h
theorem ltS_tr {x y z : Str} (h : ltS x y = true) (g : ltS y z = true) : ltS x z = true := by
  simp only [ltS, decide_eq_true_eq] at *
  exact List.lt_trans h g
theorem ltS_of {x y : Str} (h : leS x y = true) (n : x ≠ y) : ltS x y = true := by
  cases e : ltS x y with
  | true => rfl
  | false =>
    have := leS_lt y x
    rw [e] at this
    exact absurd (leS_anti h (by simpa using this)) n
theorem ltS_as {x y : Str} (h : ltS x y = true) : ltS y x = false := by
  cases e : ltS y x with
  | false => rfl
  | true => have := ltS_tr h e; rw [ltS_irr] at this; cases this
def Asc (xs : List Str) : Prop := xs.Pairwise fun x y => ltS x y = true
def asc : List Str → Bool
  | x :: y :: r => ltS x y && asc (y :: r)
  | _ => true
theorem asc_iff : ∀ xs : List Str, asc xs = true ↔ Asc xs
  | [] => ⟨fun _ => List.Pairwise.nil, fun _ => rfl⟩
  | [x] => ⟨fun _ => List.pairwise_singleton _ _, fun _ => rfl⟩
  | x :: y :: r => by
    have ih := asc_iff (y :: r)
    simp only [asc, Bool.and_eq_true]
    rw [ih]
    constructor
    · rintro ⟨h, p⟩
      refine List.pairwise_cons.mpr ⟨fun z hz => ?_, p⟩
      rcases List.mem_cons.mp hz with rfl | hz
      · exact h
      · exact ltS_tr h ((List.pairwise_cons.mp p).1 z hz)
    · intro p
      exact ⟨(List.pairwise_cons.mp p).1 y List.mem_cons_self, (List.pairwise_cons.mp p).2⟩
theorem Asc.nodup {xs : List Str} (h : Asc xs) : xs.Nodup := List.Pairwise.imp (fun h => ltS_ne h) h
theorem Asc.sorted {xs : List Str} (h : Asc xs) : sortS xs = xs := List.mergeSort_of_pairwise (List.Pairwise.imp (fun h => ltS_le h) h)
theorem sortS_asc {xs : List Str} (h : xs.Nodup) : Asc (sortS xs) := by
  have p : (sortS xs).Pairwise fun x y => leS x y = true := List.pairwise_mergeSort leS_trans leS_total xs
  have n : (sortS xs).Nodup := (List.mergeSort_perm xs leS).nodup_iff.mpr h
  exact List.Pairwise.imp₂ (fun a b h1 h2 => ltS_of h1 h2) p n
theorem setL_go : ∀ (xs L : List Str), L.Nodup → (xs.foldl addT L).Nodup ∧ ∀ x, x ∈ xs.foldl addT L ↔ x ∈ L ∨ x ∈ xs
  | [], L, h => ⟨h, fun x => by simp⟩
  | y :: ys, L, h => by
    have h' : (addT L y).Nodup := by
      unfold addT
      split
      · exact h
      · rename_i n; exact List.nodup_cons.mpr ⟨n, h⟩
    obtain ⟨a, b⟩ := setL_go ys (addT L y) h'
    refine ⟨a, fun x => (b x).trans ?_⟩
    unfold addT
    split
    · rename_i m
      constructor
      · rintro (q | q)
        · exact .inl q
        · exact .inr (List.mem_cons_of_mem _ q)
      · rintro (q | q)
        · exact .inl q
        · rcases List.mem_cons.mp q with rfl | q
          · exact .inl m
          · exact .inr q
    · simp only [List.mem_cons]
      constructor
      · rintro ((q | q) | q)
        · exact .inr (.inl q)
        · exact .inl q
        · exact .inr (.inr q)
      · rintro (q | q | q)
        · exact .inl (.inr q)
        · exact .inl (.inl q)
        · exact .inr q
theorem setL_nodup (xs : List Str) : (setL xs).Nodup := (setL_go xs [] List.nodup_nil).1
theorem setL_mem {xs : List Str} {x : Str} : x ∈ setL xs ↔ x ∈ xs := by
  have := (setL_go xs [] List.nodup_nil).2 x
  unfold setL
  simpa using this
theorem asc_ext : ∀ {xs ys : List Str}, Asc xs → Asc ys → (∀ x, x ∈ xs ↔ x ∈ ys) → xs = ys
  | [], [], _, _, _ => rfl
  | [], y :: ys, _, _, h => by have := (h y).mpr List.mem_cons_self; cases this
  | x :: xs, [], _, _, h => by have := (h x).mp List.mem_cons_self; cases this
  | x :: xs, y :: ys, p, q, h => by
    obtain ⟨p1, p2⟩ := List.pairwise_cons.mp p
    obtain ⟨q1, q2⟩ := List.pairwise_cons.mp q
    have e : x = y := by
      rcases List.mem_cons.mp ((h x).mp List.mem_cons_self) with e | hx
      · exact e
      · rcases List.mem_cons.mp ((h y).mpr List.mem_cons_self) with e | hy
        · exact e.symm
        · have a := ltS_as (p1 y hy); rw [q1 x hx] at a; cases a
    subst e
    rw [asc_ext p2 q2 fun z => ?_]
    constructor
    · intro hz
      rcases List.mem_cons.mp ((h z).mp (List.mem_cons_of_mem _ hz)) with e | hz'
      · subst e; exact absurd rfl (ltS_ne (p1 z hz))
      · exact hz'
    · intro hz
      rcases List.mem_cons.mp ((h z).mpr (List.mem_cons_of_mem _ hz)) with e | hz'
      · subst e; exact absurd rfl (ltS_ne (q1 z hz))
      · exact hz'
theorem sset_asc (xs : List Str) : Asc (sortS (setL xs)) := sortS_asc (setL_nodup xs)
theorem sset_mem {xs : List Str} {x : Str} : x ∈ sortS (setL xs) ↔ x ∈ xs := (List.mem_mergeSort).trans setL_mem
theorem sset_eq (xs : List Str) : xs = sortS (setL xs) ↔ Asc xs :=
  ⟨fun e => by rw [e]; exact sset_asc xs, fun h => asc_ext h (sset_asc xs) fun x => sset_mem.symm⟩
theorem asc_zip : ∀ xs : List Str, (xs.dropLast.zipWith (fun x y => ltS x y) (xs.drop 1)).all id = asc xs
  | [] => rfl
  | [x] => rfl
  | x :: y :: r => by
    have ih := asc_zip (y :: r)
    simp only [List.dropLast_cons_cons, List.drop_succ_cons, List.drop_zero, asc] at ih ⊢
    cases r with
    | nil => simp [asc]
    | cons z r =>
      simp only [List.zipWith_cons_cons, List.all_cons, id]
      rw [← ih]
/-! names -/
def letS : Str := Str.ofString "abcdefghijklmnopqrstuvwxyz"
def letN (c : Nat) : Bool := decide (97 ≤ c) && decide (c ≤ 122)
theorem letS_eq : letS.cps.toList = (List.range 26).map (97 + ·) := by decide +kernel
theorem letN_iff {c : Nat} : letN c = true ↔ c ∈ letS.cps.toList := by
  rw [letS_eq, List.mem_map]
  simp only [letN, Bool.and_eq_true, decide_eq_true_eq, List.mem_range]
  constructor
  · intro h; exact ⟨c - 97, by omega, by omega⟩
  · rintro ⟨a, h, e⟩; omega
def nameS (x : Str) : Bool := decide (1 ≤ x.length) && decide (x.length ≤ 8) && x.cps.toList.all letN
def words20 : List Str := ["all", "any", "as", "ask", "beam", "door", "from", "joined", "new", "open", "outside", "parted", "room", "same", "shut", "table", "to", "went", "with", "wall"].map Str.ofString
def chA (i : Nat) : Str := ⟨#[97 + i]⟩
def nameAt (w f k : Nat) : Str := match w with
  | 0 => chA ((f + 7 * k) % 26)
  | 1 => (words20[(f + 3 * k) % 20]?).getD (Str.ofString "")
  | 2 => Str.ofString "passage" ++ chA ((f + 7 * k) % 26)
  | _ => if k < 8 then ⟨((Str.ofString "corridor").cps.toList.take (1 + k)).toArray⟩ else Str.ofString "hall" ++ chA ((f + 7 * k) % 26)
def nameList (w f n : Nat) : List Str := (List.range n).map (nameAt w f)
def codeS (x : Str) : Nat := x.cps.toList.foldl (fun a c => a * 256 + c) 0
def goodNames (l : List Str) : Bool := decide (l.map codeS).Nodup && l.all nameS
theorem goodNames_nodup {l : List Str} (h : goodNames l = true) : l.Nodup ∧ ∀ x ∈ l, nameS x = true := by
  simp only [goodNames, Bool.and_eq_true, decide_eq_true_eq, List.all_eq_true] at h
  exact ⟨(List.pairwise_map.mp h.1).imp fun h e => h (congrArg _ e), h.2⟩
theorem names_good : ∀ w < 4, ∀ f < 26, goodNames (nameList w f 20) = true := by decide +kernel
theorem nameAt_mem {w f n k : Nat} (h : k < n) : nameAt w f k ∈ nameList w f n := List.mem_map.mpr ⟨k, List.mem_range.mpr h, rfl⟩
/-! ### buildings -/
abbrev Dr := Str × Str × Option Str
def sideD : Option Str → D
  | none => .non
  | some x => .str x
def drD (d : Dr) : D := .tup [.str d.1, .str d.2.1, sideD d.2.2]
def hsD (rs : List Str) (ds : List Dr) : D := .tup [.tup (rs.map .str), .tup (ds.map drD)]
def sdOk (rs : List Str) (a : Str) : Option Str → Bool
  | none => decide (a ∈ rs)
  | some b => decide (a ∈ rs) && decide (b ∈ rs) && ltS a b
structure House (rs : List Str) (ds : List Dr) : Prop where
  ne : rs ≠ []
  nm : ∀ x ∈ rs, nameS x = true
  asc : Asc rs
  dn : ∀ d ∈ ds, nameS d.1 = true
  dasc : Asc (ds.map (·.1))
  sd : ∀ d ∈ ds, sdOk rs d.2.1 d.2.2 = true
def isNm : D → Bool
  | .str x => nameS x
  | _ => false
def isRm (rs : List Str) : D → Bool
  | .str x => decide (x ∈ rs)
  | _ => false
def ltD : D → D → Bool
  | .str x, .str y => ltS x y
  | _, _ => false
def areSd (rs : List Str) (a b : D) : Bool := isRm rs a && (b.isNon || isRm rs b && ltD a b)
def isDr (rs : List Str) : D → Bool
  | .tup [n, a, b] => isNm n && areSd rs a b
  | _ => false
def drName : D → Str
  | .tup (.str x :: _) => x
  | _ => Str.empty
def areRms (xs : List D) : Bool := match strsD xs with
  | some rs => !rs.isEmpty && rs.all nameS && asc rs
  | none => false
def areDrs (rs : List Str) (ds : List D) : Bool := ds.all (isDr rs) && asc (ds.map drName)
def strsL (xs : List D) : List Str := (strsD xs).getD []
def isHs : D → Bool
  | .tup [.tup xs, .tup ds] => areRms xs && areDrs (strsL xs) ds
  | _ => false
theorem strsD_map : ∀ rs : List Str, strsD (rs.map .str) = some rs
  | [] => rfl
  | x :: xs => by simp only [List.map_cons, strsD, strsD_map xs, Option.map_some]
theorem strsL_map (rs : List Str) : strsL (rs.map .str) = rs := by simp [strsL, strsD_map]
theorem areRms_of {xs : List D} (h : areRms xs = true) : ∃ rs, xs = rs.map .str ∧ rs ≠ [] ∧ (∀ x ∈ rs, nameS x = true) ∧ Asc rs := by
  unfold areRms at h
  cases e : strsD xs with
  | none => rw [e] at h; cases h
  | some rs =>
    rw [e] at h
    simp only [Bool.and_eq_true, List.all_eq_true, Bool.not_eq_true', List.isEmpty_eq_false_iff] at h
    exact ⟨rs, strsD_eq e, h.1.1, h.1.2, (asc_iff _).mp h.2⟩
theorem areRms_str {rs : List Str} : areRms (rs.map .str) = (!rs.isEmpty && rs.all nameS && asc rs) := by unfold areRms; rw [strsD_map]
theorem house_is {rs : List Str} {ds : List Dr} (h : House rs ds) : isHs (hsD rs ds) = true := by
  simp only [isHs, hsD, areRms_str, strsL_map, areDrs, Bool.and_eq_true, List.all_eq_true, Bool.not_eq_true', List.isEmpty_eq_false_iff]
  refine ⟨⟨⟨h.ne, h.nm⟩, (asc_iff _).mpr h.asc⟩, fun d hd => ?_, ?_⟩
  · obtain ⟨⟨n, a, b⟩, hd', rfl⟩ := List.mem_map.mp hd
    have h1 := h.dn _ hd'
    have h2 := h.sd _ hd'
    simp only [drD, isDr, isNm, areSd, isRm, Bool.and_eq_true, decide_eq_true_eq] at h1 h2 ⊢
    cases b with
    | none =>
      simp only [sdOk, decide_eq_true_eq] at h2
      exact ⟨h1, h2, by simp [sideD, D.isNon]⟩
    | some b =>
      simp only [sdOk, decide_eq_true_eq, Bool.and_eq_true] at h2
      exact ⟨h1, h2.1.1, by simp [sideD, D.isNon, isRm, ltD, h2.1.2, h2.2]⟩
  · rw [List.map_map]
    exact (asc_iff _).mpr h.dasc
/-! ### what the comparisons give -/
def isNilT : D → Bool
  | .tup [] => true
  | _ => false
def isNilL : D → Bool
  | .lst [] => true
  | _ => false
theorem okEq_nil {d : D} (h : d.isD = true) : okEq d (.tup []) = true := by
  unfold okEq
  rw [h]
  cases d <;> simp [D.isD, D.isDL, D.py, D.pyL, sf, sfA, PyData.depth, PyData.depthAll, Nat.min_le_right] <;> omega
theorem eq_nil (d : D) (h : d.isD = true) : d.eq (.tup []) = isNilT d := by
  unfold D.eq
  cases d with
  | tup xs => cases xs <;> simp [D.py, D.pyL, eqd, eqdA, PyData.eqv, PyData.eqvAll, isNilT]
  | dit _ _ => cases h
  | ins _ _ _ => cases h
  | cst _ => cases h
  | _ => simp [D.py, D.pyL, eqd, PyData.eqv, isNilT]
theorem okNe_nil {xs : List D} (h : D.isDL xs = true) : okNe (.lst xs) (.lst []) = true := by
  unfold okNe okEq
  cases xs <;> simp [D.isD, D.isDL, D.py, D.pyL, sf, sfA, PyData.depth, PyData.depthAll] at h ⊢ <;> first | exact h | (refine ⟨h, ?_⟩; omega) | omega
theorem okEq_nilL {xs : List D} (h : D.isDL xs = true) : okEq (.lst xs) (.lst []) = true := okNe_nil h
theorem isHs_1 (x : D) : isHs (.tup [x]) = false := by
  cases x <;> rfl
theorem isHs_3 (x y z : D) (zs : List D) : isHs (.tup (x :: y :: z :: zs)) = false := by
  cases x <;> cases y <;> rfl
theorem isHs_l {x y : D} (h : ∀ xs, x ≠ .tup xs) : isHs (.tup [x, y]) = false := by
  cases x <;> first | rfl | exact absurd rfl (h _)
theorem isHs_r {x y : D} (h : ∀ xs, y ≠ .tup xs) : isHs (.tup [x, y]) = false := by
  cases x <;> cases y <;> first | rfl | exact absurd rfl (h _)
theorem isDL_of {xs : List D} (h : ∀ x ∈ xs, x.isD = true) : D.isDL xs = true := by
  rw [D.isDL_all]; exact List.all_eq_true.mpr h
theorem eq_nilL (xs : List D) : (D.lst xs).eq (.lst []) = xs.isEmpty := by
  unfold D.eq
  cases xs <;> simp [D.py, D.pyL, eqd, eqdA, PyData.eqv, PyData.eqvAll]
theorem pyL_strs : ∀ rs : List Str, D.pyL (rs.map .str) = rs.map .str
  | [] => rfl
  | x :: xs => by simp only [List.map_cons, D.pyL, pyL_strs xs, D.py]
theorem isDL_strs : ∀ rs : List Str, D.isDL (rs.map .str) = true
  | [] => rfl
  | x :: xs => by simp only [List.map_cons, D.isDL, isDL_strs xs, D.isD, Bool.and_self]
theorem dep_strs : ∀ rs : List Str, PyData.depthAll (rs.map .str) = 0
  | [] => rfl
  | x :: xs => by simp only [List.map_cons, PyData.depthAll, dep_strs xs, PyData.depth, Nat.max_self]
theorem sfA_strs : ∀ rs ss : List Str, sfA (rs.map .str) (ss.map .str) = true
  | [], _ => by simp [sfA]
  | _ :: _, [] => by simp [sfA]
  | x :: xs, y :: ys => by simp only [List.map_cons, sfA, sf, sfA_strs xs ys, Bool.and_self]
theorem eqvA_strs : ∀ rs ss : List Str, eqdA (rs.map .str) (ss.map .str) = decide (rs = ss)
  | [], [] => by simp [eqdA]
  | [], _ :: _ => by simp [eqdA]
  | _ :: _, [] => by simp [eqdA]
  | x :: xs, y :: ys => by
    simp only [List.map_cons, eqdA, eqd, PyData.eqv, eqvA_strs xs ys, List.cons.injEq]
    rw [Bool.eq_iff_iff]
    simp
theorem okEq_strs (rs ss : List Str) : okEq (.lst (rs.map .str)) (.lst (ss.map .str)) = true := by
  simp only [okEq, D.isD, isDL_strs, D.py, pyL_strs, sf, sfA_strs, PyData.depth, dep_strs, Bool.or_true, Bool.and_self, Bool.true_and]
  decide
theorem okNe_strs (rs ss : List Str) : okNe (.lst (rs.map .str)) (.lst (ss.map .str)) = true := okEq_strs rs ss
theorem eq_strs (rs ss : List Str) : (D.lst (rs.map .str)).eq (.lst (ss.map .str)) = decide (rs = ss) := by
  simp only [D.eq, D.py, pyL_strs, eqd, eqvA_strs]
theorem plain_strs : ∀ rs : List Str, PyData.plainAll (rs.map .str) = true
  | [] => rfl
  | x :: xs => by simp only [List.map_cons, PyData.plainAll, PyData.plain, plain_strs xs, Bool.and_self]
theorem okIn_strs {x : D} (h : x.isD = true) (rs : List Str) : okIn x (rs.map .str) = true := by
  simp only [okIn, h, pyL_strs, isDL_strs, plain_strs, dep_strs, Nat.zero_min, Bool.and_true, Bool.true_and, List.all_map]
  rw [Bool.and_eq_true]
  refine ⟨List.all_eq_true.mpr fun r _ => ?_, by decide⟩
  cases x <;> simp [Function.comp, sf, D.py]
theorem inD_strs {x : D} (h : x.isD = true) : ∀ rs : List Str, inD x (rs.map .str) = isRm rs x
  | [] => by cases x <;> simp [inD, isRm]
  | r :: rs => by
    have ih := inD_strs h rs
    unfold inD at ih ⊢
    rw [List.map_cons, List.any_cons, ih]
    cases x with
    | str y =>
      rw [eq_str]
      simp only [isRm, List.mem_cons]
      rw [Bool.eq_iff_iff]
      simp only [Bool.or_eq_true, decide_eq_true_eq]
      constructor
      · rintro (e | e)
        · exact .inl e.symm
        · exact .inr e
      · rintro (e | e)
        · exact .inl e.symm
        · exact .inr e
    | dit _ _ => cases h
    | ins _ _ _ => cases h
    | cst _ => cases h
    | _ => simp [D.eq, D.py, eqd, PyData.eqv, isRm]
/-! ### any value at hand -/
def Av (d : D) : Prop := Sm 43 100000 30 d
theorem bulk_part : ∀ {xs : List D} {x : D}, x ∈ xs → x.py.bulk + 1 ≤ PyData.bulkAll (D.pyL xs) ∧ x.py.depth ≤ PyData.depthAll (D.pyL xs)
  | y :: ys, x, h => by
    simp only [D.pyL, PyData.bulkAll, PyData.depthAll]
    rcases List.mem_cons.mp h with rfl | h
    · exact ⟨by omega, Nat.le_max_left _ _⟩
    · have := bulk_part h
      exact ⟨by omega, Nat.le_trans this.2 (Nat.le_max_right _ _)⟩
theorem len_bulk : ∀ xs : List D, xs.length ≤ PyData.bulkAll (D.pyL xs)
  | [] => Nat.zero_le _
  | y :: ys => by
    have := len_bulk ys
    simp only [D.pyL, PyData.bulkAll, List.length_cons]
    omega
theorem show_part : ∀ {xs : List D} {x : D}, x ∈ xs → PyData.showableAll (D.pyL xs) = true → x.py.showable = true
  | y :: ys, x, h, e => by
    simp only [D.pyL, PyData.showableAll, Bool.and_eq_true] at e
    rcases List.mem_cons.mp h with rfl | h
    · exact e.1
    · exact show_part h e.2
theorem leaf_part {B : Nat} : ∀ {xs : List D} {x : D}, x ∈ xs → PyData.leavesShortAll B (D.pyL xs) = true → x.py.leavesShort B = true
  | y :: ys, x, h, e => by
    simp only [D.pyL, PyData.leavesShortAll, Bool.and_eq_true] at e
    rcases List.mem_cons.mp h with rfl | h
    · exact e.1
    · exact leaf_part h e.2
section
variable {B n k : Nat} {xs : List D} {x : D}
theorem Sm.partT (h : Sm B n (k + 1) (.tup xs)) (hx : x ∈ xs) : Sm B n k x := by
  have h1 := h.isD; have h2 := h.sh; have h3 := h.lv; have h4 := h.bk; have h5 := h.dp
  simp only [D.isD, D.py, PyData.showable, PyData.leavesShort, PyData.bulk, PyData.depth] at h1 h2 h3 h4 h5
  have q := bulk_part hx
  exact ⟨isDL_mem h1 x hx, show_part hx h2, leaf_part hx h3, by omega, by omega⟩
theorem Sm.partL (h : Sm B n (k + 1) (.lst xs)) (hx : x ∈ xs) : Sm B n k x := by
  have h1 := h.isD; have h2 := h.sh; have h3 := h.lv; have h4 := h.bk; have h5 := h.dp
  simp only [D.isD, D.py, PyData.showable, PyData.leavesShort, PyData.bulk, PyData.depth] at h1 h2 h3 h4 h5
  have q := bulk_part hx
  exact ⟨isDL_mem h1 x hx, show_part hx h2, leaf_part hx h3, by omega, by omega⟩
theorem Sm.lenT (h : Sm B n k (.tup xs)) : xs.length ≤ n := by
  have h4 := h.bk
  simp only [D.py, PyData.bulk] at h4
  exact Nat.le_trans (len_bulk xs) h4
theorem Sm.lenL (h : Sm B n k (.lst xs)) : xs.length ≤ n := by
  have h4 := h.bk
  simp only [D.py, PyData.bulk] at h4
  exact Nat.le_trans (len_bulk xs) h4
theorem Sm.lenS {x : Str} (h : Sm B n k (.str x)) : x.length ≤ n := h.bk
end
theorem Av.part {xs : List D} {x : D} (h : Av (.tup xs)) (hx : x ∈ xs) : Av x := (Sm.partT (k := 29) h hx).mono (Nat.le_refl _) (by decide)
def Sv (d : D) : Prop := Sm 43 4000 30 d
theorem Sv.av {d : D} (h : Sv d) : Av d := Sm.mono h (by decide) (Nat.le_refl _)
theorem Sv.part {xs : List D} {x : D} (h : Sv (.tup xs)) (hx : x ∈ xs) : Sv x := (Sm.partT (k := 29) h hx).mono (Nat.le_refl _) (by decide)
theorem Sv.lenT {xs : List D} (h : Sv (.tup xs)) : xs.length ≤ 4000 := Sm.lenT h
theorem Av.lenT {xs : List D} (h : Av (.tup xs)) : xs.length ≤ 100000 := Sm.lenT h
theorem Av.lenS {x : Str} (h : Av (.str x)) : x.length ≤ 100000 := Sm.lenS h
theorem Av.isD {d : D} (h : Av d) : d.isD = true := Sm.isD h
theorem Av.show {d : D} (h : Av d) : okShow d = true ∧ d.py.shown.length ≤ sizeLine := Sm.show h (by decide) (by rw [sizeLine_eq]; decide) (by decide)
end Pz

set_option maxRecDepth 100000
set_option maxHeartbeats 4000000
/-! Pb, part 2: lines, in plain terms. -/
namespace Pz
open PySem L2 PySem.Spec PyProof.Rows
/-! ### dicts by distinct keys -/
theorem hasK_mem {ks : List Key} {k : Key} : hasK ks k = true ↔ k ∈ ks := by
  unfold hasK
  simp
theorem hasK_no {ks : List Key} {k : Key} (h : k ∉ ks) : hasK ks k = false := by
  cases e : hasK ks k with
  | false => rfl
  | true => exact absurd (hasK_mem.mp e) h
theorem putKs_new {ks : List Key} {k : Key} (h : k ∉ ks) : putKs ks k = ks ++ [k] := by
  unfold putKs
  rw [hasK_no h]; rfl
theorem putVs_new {α : Type} {ks : List Key} {k : Key} {xs : List α} {x : α} (h : k ∉ ks) : putVs ks xs k x = xs ++ [x] := by
  unfold putVs
  rw [hasK_no h]; rfl
theorem mrgD_new : ∀ {ps : List (Key × D)} {ks : List Key} {ds : List D}, (ks ++ ps.map (·.1)).Nodup → mrgD ps ks ds = (ks ++ ps.map (·.1), ds ++ ps.map (·.2))
  | [], ks, ds, _ => by simp [mrgD]
  | p :: ps, ks, ds, h => by
    have hn : p.1 ∉ ks := fun z => (List.nodup_append.mp h).2.2 p.1 z p.1 (by simp) rfl
    rw [mrgD, putKs_new hn, putVs_new hn, mrgD_new (by simpa using h)]
    simp
/-- one step of a dict comprehension -/
def dcStep (g : WG) (vs : List Nat) (tt : WT) (tk tv : W) (x : D) (ks : List Key) (ds : List D) (ρ : S) (Kc : List Key → List D → S → Prop) : Prop :=
  ∃ ρ', g x (ρ.uns vs) = some ρ' ∧ tt ρ' fun b ρ2 => if b = true then tk ρ2 fun r1 ρ3 => tv ρ3 fun r2 ρ4 => ∃ y k d, r1.fz = .d y ∧ keyOf y = some k ∧ r2.fz.look ρ4 = some d ∧ ks.length < sizeLine ∧ Kc (putKs ks k) (putVs ks ds k d) (ρ.back (r2.fz.fz ρ4) vs) else Kc ks ds (ρ.back ρ2 vs)
theorem dcGo_cons {g : WG} {vs : List Nat} {tt : WT} {tk tv : W} {x : D} {xs : List D} {ks : List Key} {ds : List D} {ρ : S} {R : Res → S → Prop} : dcGo g vs tt tk tv (x :: xs) ks ds ρ R = dcStep g vs tt tk tv x ks ds ρ fun ks' ds' ρ' => dcGo g vs tt tk tv xs ks' ds' ρ' R := by
  unfold dcStep
  rw [dcGo]
/-- a dict comprehension that only looks, its keys distinct -/
theorem dc_map {g : WG} {vs : List Nat} {tt : WT} {tk tv : W} {ρ : S} {R : Res → S → Prop} {α : Type} (ys : List α) (e : α → D) (fk : α → Key) (fv : α → D) (hn : (ys.map fk).Nodup)
    (h : ∀ x ∈ ys, ∀ (ks : List Key) (ds : List D) (Kc : List Key → List D → S → Prop), ks.length < sizeLine → Kc (putKs ks (fk x)) (putVs ks ds (fk x) (fv x)) ρ → dcStep g vs tt tk tv (e x) ks ds ρ Kc)
    (hl : ys.length ≤ sizeLine) (hR : R (.m (ys.map fk) (ys.map fv)) ρ) : dcGo g vs tt tk tv (ys.map e) [] [] ρ R := by
  have key : ∀ (zs ws : List α), ys = zs ++ ws → dcGo g vs tt tk tv (ws.map e) (zs.map fk) (zs.map fv) ρ R := by
    intro zs ws
    induction ws generalizing zs with
    | nil =>
      intro q
      rw [List.append_nil] at q
      subst q
      exact hR
    | cons w ws ih =>
      intro q
      rw [List.map_cons, dcGo_cons]
      refine h w (by rw [q]; simp) _ _ _ ?_ ?_
      · rw [List.length_map]
        have := congrArg List.length q
        rw [List.length_append, List.length_cons] at this
        omega
      · have hk : fk w ∉ zs.map fk := by
          rw [q, List.map_append, List.map_cons] at hn
          exact fun z => (List.nodup_append.mp hn).2.2 _ z _ (by simp) rfl
        rw [putKs_new hk, putVs_new hk]
        have := ih (zs ++ [w]) (by rw [q]; simp)
        simpa using this
  exact key [] ys rfl
/-! ### doors by name -/
def drKs (ds : List Dr) : List Key := ds.map fun d => .inr d.1
def drVs (ds : List Dr) : List D := ds.map fun d => .tup [.str d.2.1, sideD d.2.2]
theorem drKs_nodup {ds : List Dr} (h : Asc (ds.map (·.1))) : (drKs ds).Nodup := by
  have := h.nodup
  unfold drKs
  rw [List.Nodup, List.pairwise_map] at this ⊢
  exact this.imp fun h e => h (Sum.inr.inj e)
def ownS (ds : List Dr) (x : Str) : Bool := decide (x ∈ ds.map (·.1))
def isOwn (ds : List Dr) : D → Bool
  | .str x => ownS ds x
  | _ => false
theorem hasK_drs (ds : List Dr) (x : Str) : hasK (drKs ds) (.inr x) = ownS ds x := by
  rw [Bool.eq_iff_iff, hasK_mem]
  unfold drKs ownS
  simp
def sidesAt (ds : List Dr) (x : Str) : Option (Str × Option Str) := (ds.find? fun d => decide (d.1 = x)).map (·.2)
theorem lookD_drs (ds : List Dr) (x : Str) : lookD (drKs ds) (drVs ds) (.inr x) = (sidesAt ds x).map fun s => .tup [.str s.1, sideD s.2] := by
  unfold lookD drKs drVs sidesAt
  induction ds with
  | nil => rfl
  | cons d ds ih =>
    simp only [List.map_cons, List.zip_cons_cons, List.find?_cons]
    by_cases h : d.1 = x
    · subst h; simp
    · have h1 : decide ((Sum.inr d.1 : Key) = .inr x) = false := decide_eq_false fun z => h (Sum.inr.inj z)
      have h2 : decide (d.1 = x) = false := decide_eq_false h
      rw [h1, h2]
      exact ih
theorem sidesAt_own {ds : List Dr} {x : Str} (h : ownS ds x = true) : ∃ s, sidesAt ds x = some s := by
  unfold ownS at h
  unfold sidesAt
  have h := of_decide_eq_true h
  obtain ⟨d, hd, e⟩ := List.mem_map.mp h
  cases q : ds.find? fun d => decide (d.1 = x) with
  | some d => exact ⟨_, rfl⟩
  | none =>
    have := List.find?_eq_none.mp q d hd
    simp [e] at this
/-! ### the parts of lines -/
def isSide (s : Str × Option Str) : D → Bool
  | .str y => decide (y = s.1) || decide (s.2 = some y)
  | .non => decide (s.2 = none)
  | _ => false
def isPass (ds : List Dr) (a b : D) : Bool := match a with
  | .str x => (match sidesAt ds x with
    | some s => isSide s b
    | none => false)
  | _ => false
def isCnt : D → Bool
  | .int i => decide (0 ≤ i)
  | _ => false
def bnds : D → D → Bool
  | .int i, .non => decide (0 ≤ i)
  | .int i, .int j => decide (0 ≤ i) && decide (i ≤ j)
  | _, _ => false
def joinL (rs : List Str) : D → D → D → Bool
  | .str a, .str b, c => decide (a ∈ rs) && decide (b ∈ rs) && !decide (a = b) && (isNm c && !isRm (rs.filter fun r => !(decide (r = a) || decide (r = b))) c)
  | _, _, _ => false
def hasSd (r : Str) (d : Dr) : Bool := decide (r = d.2.1) || decide (d.2.2 = some r)
def ownOf (ds : List Dr) (r : Str) : List Str := (ds.filter (hasSd r)).map (·.1)
def partOk (rs : List Str) (ds : List Dr) : D → D → D → D → Bool
  | .str r, .str a, .str b, .tup ws => decide (r ∈ rs) && nameS a && nameS b && !decide (a = b) && (!decide (a ∈ rs.filter fun x => !decide (x = r)) && !decide (b ∈ rs.filter fun x => !decide (x = r)) && (ws.all (isRm (ownOf ds r)) && asc (strsL ws)))
  | _, _, _, _ => false
def newOk (rs : List Str) (ds : List Dr) (n a b : D) : Bool := isNm n && !isOwn ds n && areSd rs a b
def sBeam : Str := Str.ofString "beam"
def sOpen : Str := Str.ofString "open"
def sShut : Str := Str.ofString "shut"
def sWent : Str := Str.ofString "went"
def sRoom : Str := Str.ofString "room"
def sAll : Str := Str.ofString "all"
def sJoin : Str := Str.ofString "joined"
def sPart : Str := Str.ofString "parted"
def sDoor : Str := Str.ofString "door"
/-- whether a word and the other parts are a line -/
def lnOk (rs : List Str) (ds : List Dr) (w : Str) (ps : List D) : Bool :=
  if w = sBeam ∨ w = sOpen ∨ w = sShut then (match ps with
    | [a] => isOwn ds a
    | _ => false)
  else if w = sWent then (match ps with
    | [a, b] => isPass ds a b
    | _ => false)
  else if w = sRoom then (match ps with
    | [a, b, c] => isRm rs a && bnds b c
    | _ => false)
  else if w = sAll then (match ps with
    | [a, b] => bnds a b
    | _ => false)
  else if w = sJoin then (match ps with
    | [a, b, c] => joinL rs a b c
    | _ => false)
  else if w = sPart then (match ps with
    | [a, b, c, d] => partOk rs ds a b c d
    | _ => false)
  else if w = sDoor then (match ps with
    | [a, b, c] => newOk rs ds a b c
    | _ => false)
  else false
def isLn (rs : List Str) (ds : List Dr) : D → Bool
  | .tup (.str w :: ps) => lnOk rs ds w ps
  | _ => false
/-! what `in` says of two sides -/
theorem okIn_sd {x : D} (h : x.isD = true) (a : Str) (b : Option Str) : okIn x [.str a, sideD b] = true := by
  have hs : (sideD b).py.depth = 0 := by cases b <;> rfl
  have hp : (sideD b).py.plain = true := by cases b <;> simp [sideD, D.py, PyData.plain]
  have hd : (sideD b).isD = true := by cases b <;> rfl
  have h1 : sf (D.str a).py x.py = true := by cases x <;> simp [sf, D.py]
  have h2 : sf (sideD b).py x.py = true := by cases b <;> cases x <;> simp [sideD, sf, D.py]
  have h3 : (PyData.depthAll (D.pyL [.str a, sideD b])) = 0 := by simp only [D.pyL, PyData.depthAll, hs]; rfl
  simp only [okIn, Bool.and_eq_true, decide_eq_true_eq]
  refine ⟨⟨⟨⟨h, ?_⟩, ?_⟩, ?_⟩, ?_⟩
  · simp [D.pyL, h1, h2]
  · simp [D.isDL, D.isD, hd]
  · simp only [D.pyL, PyData.plainAll, hp, D.py, PyData.plain, Bool.and_self]
  · refine Nat.le_trans (Nat.min_le_left _ _) ?_
    rw [h3]; omega
theorem inD_sd {x : D} (h : x.isD = true) (s : Str × Option Str) : inD x [.str s.1, sideD s.2] = isSide s x := by
  obtain ⟨a, b⟩ := s
  unfold inD
  cases x with
  | dit _ _ => cases h
  | ins _ _ _ => cases h
  | cst _ => cases h
  | str y =>
    have e1 : (D.str a).eq (.str y) = decide (a = y) := eq_str a y
    have e0 : decide (a = y) = decide (y = a) := by
      by_cases q : a = y
      · subst q; rfl
      · rw [decide_eq_false q, decide_eq_false (Ne.symm q)]
    cases b with
    | none =>
      have e2 : (sideD none).eq (.str y) = false := by simp [D.eq, D.py, sideD, eqd, PyData.eqv]
      simp only [List.any_cons, List.any_nil, e1, e2, e0, isSide, reduceCtorEq, decide_false]
      rfl
    | some c =>
      have e2 : (sideD (some c)).eq (.str y) = decide (c = y) := eq_str c y
      simp only [List.any_cons, List.any_nil, e1, e2, e0, isSide, Option.some.injEq, Bool.or_false]
  | non => cases b <;> simp [D.eq, D.py, sideD, eqd, PyData.eqv, isSide]
  | _ => cases b <;> simp [D.eq, D.py, sideD, eqd, PyData.eqv, isSide]
theorem okIn_two {x : D} (h : x.isD = true) (a b : Str) : okIn x [.str a, .str b] = true := okIn_sd h a (some b)
theorem inD_two {x : D} (h : x.isD = true) (a b : Str) : inD x [.str a, .str b] = isSide (a, some b) x := inD_sd h (a, some b)
theorem eq_strD (x : Str) (d : D) : (D.str x).eq d = (match d with
    | .str y => decide (x = y)
    | _ => false) := by
  cases d with
  | str y => exact eq_str x y
  | _ => simp [D.eq, D.py, eqd, PyData.eqv]
theorem okNe_strD (x : Str) {d : D} (h : d.isD = true) : okNe (.str x) d = true := by
  cases d <;> exact h
end Pz

namespace Q
open PySem L2 Pz
local macro_rules
  | `(tactic| simp? only [$as,*]) => `(tactic| simp only [wUnps, wKin, wtKin, waStar, wisWS, wFrz, wRais, wDc, IS.sms, IS.sm, IE.sm, IE.sms, IE.smo, pl, List.map_cons, List.map_nil, andW, orW, andT, orT, wisW, srcW, prs, ifsW, wNext, wSeq, wBrk, wCnt, wDrop, wRet, wIfS, wSet, wUnp, wPar, parGo, wFor, wc, w1, w2, waNil, waCons, wN, wTup, wLst, wtv, wtNot, wtAnd, wtOr, Pz.wNot, wAnd, wOr, wIf, wChain, wtCmp, wtChain, wSl, woNo, woE, wIsi, wMth, wApp, wExt, wPop, wDct0, wDct, dspGo, wLc, wiRng1, wiRng2, wiEn, wiZs, wSset, seqOf, wtYes, S.mv, fBin, fCmp, retC, ent, Fn.g, zfz_d, zfz_l, zfz_m, zfz_p, zdatO, zdat_d, zdat_l, zdat_m, zlook_d, zlook_p, zofz_d, zofz_p, zfzO, zfz, zconsO, zlooks_nil, zlooks_cons, zfzs_nil, zfzs_cons, zwvO_d, zwvO_l, zwvO_m, zwv, zset, zput_d, zput_l, zput_m, zputO, zput_p, zpush_d, zpush_l, zpush_m, zpushO, zpush_p, zmvs_nil, zmvs_cons, zout_d, zout_l, zout_m, zoutO_d, zoutO_l, zoutO_m, zout_p, ztru_non, ztru_bl, ztru_int, ztru_str, ztru_lst, ztru_tup, ztru_dic, zin_s, zin_l, zin_t, zin_d, zix_d, zdict, zadd_i, zadd_b, zsub_b, zstr_i, zstr_b, zint_b, zadd_s, zadd_l, zadd_t, zsub, zmul_i, zmul_l, zmul_s, zmul_t, zdiv, zmod, zpow, zneg, zlt_i, zle_i, zgt_i, zge_i, zlt_s, zle_s, zgt_s, zge_s, zeq_i, zne_i, zeq_s, zne_s, zis, zis_b, zix_l, zix_t, zix_s, zsl_l, zsl_t, zsl_s, zlen_s, zlen_l, zlen_t, zlen_d, ztup_l, ztup_t, zlist_l, zlist_t, zmax, zmin, zmaxS, zminS, zrev_l, zrev_t, zall, zany, zsum, zsorted, zrepr, zset_nm, zset_tt, zset_tl, zsets_nil, zsets_cons, zseqK_l, zseqK_t, zseqK_s, zseq, zcall_pu, zdkK, zcall_dk, zuns_nil, zuns_cons, zbkO_d, zbkO_l, zbkO_m, zbkO_n, zbkO_0, zback_nil, zback_cons, zat0, zat1, zat2, zat3, zm_split, zm_words, zm_join_l, zm_join_t, zm_upper, zm_lower, D.tyS, Mth.ty, List.getElem?_cons_zero, List.getElem?_cons_succ, List.set_cons_zero, List.set_cons_succ, List.dropLast_cons_cons, List.dropLast_singleton, List.getLast?_cons_cons, List.getLast?_singleton, List.cons_append, List.nil_append, List.append_nil, List.reverse_cons, List.reverse_nil, Option.getD_some, Option.getD_none, Option.some.injEq, Option.bind_some, exists_eq_left', exists_eq_left, exists_eq_right, exists_and_left, true_and, and_true, if_true, if_false, reduceCtorEq, reduceIte, Bool.false_eq_true, Bool.false_xor, Bool.true_xor, List.replicate_succ, List.replicate_zero, List.length_cons, List.length_nil, Nat.zero_add, Nat.reduceAdd, Nat.reduceSub, O.d.injEq, D.int.injEq, Res.d.injEq, B.l.injEq, B.d.injEq, D.bl.injEq, D.str.injEq, D.lst.injEq, D.tup.injEq, Nat.zero_le, $as,*])
  | `(tactic| simp? only [$as,*] $l:location) => `(tactic| simp only [wUnps, wKin, wtKin, waStar, wisWS, wFrz, wRais, wDc, IS.sms, IS.sm, IE.sm, IE.sms, IE.smo, pl, List.map_cons, List.map_nil, andW, orW, andT, orT, wisW, srcW, prs, ifsW, wNext, wSeq, wBrk, wCnt, wDrop, wRet, wIfS, wSet, wUnp, wPar, parGo, wFor, wc, w1, w2, waNil, waCons, wN, wTup, wLst, wtv, wtNot, wtAnd, wtOr, Pz.wNot, wAnd, wOr, wIf, wChain, wtCmp, wtChain, wSl, woNo, woE, wIsi, wMth, wApp, wExt, wPop, wDct0, wDct, dspGo, wLc, wiRng1, wiRng2, wiEn, wiZs, wSset, seqOf, wtYes, S.mv, fBin, fCmp, retC, ent, Fn.g, zfz_d, zfz_l, zfz_m, zfz_p, zdatO, zdat_d, zdat_l, zdat_m, zlook_d, zlook_p, zofz_d, zofz_p, zfzO, zfz, zconsO, zlooks_nil, zlooks_cons, zfzs_nil, zfzs_cons, zwvO_d, zwvO_l, zwvO_m, zwv, zset, zput_d, zput_l, zput_m, zputO, zput_p, zpush_d, zpush_l, zpush_m, zpushO, zpush_p, zmvs_nil, zmvs_cons, zout_d, zout_l, zout_m, zoutO_d, zoutO_l, zoutO_m, zout_p, ztru_non, ztru_bl, ztru_int, ztru_str, ztru_lst, ztru_tup, ztru_dic, zin_s, zin_l, zin_t, zin_d, zix_d, zdict, zadd_i, zadd_b, zsub_b, zstr_i, zstr_b, zint_b, zadd_s, zadd_l, zadd_t, zsub, zmul_i, zmul_l, zmul_s, zmul_t, zdiv, zmod, zpow, zneg, zlt_i, zle_i, zgt_i, zge_i, zlt_s, zle_s, zgt_s, zge_s, zeq_i, zne_i, zeq_s, zne_s, zis, zis_b, zix_l, zix_t, zix_s, zsl_l, zsl_t, zsl_s, zlen_s, zlen_l, zlen_t, zlen_d, ztup_l, ztup_t, zlist_l, zlist_t, zmax, zmin, zmaxS, zminS, zrev_l, zrev_t, zall, zany, zsum, zsorted, zrepr, zset_nm, zset_tt, zset_tl, zsets_nil, zsets_cons, zseqK_l, zseqK_t, zseqK_s, zseq, zcall_pu, zdkK, zcall_dk, zuns_nil, zuns_cons, zbkO_d, zbkO_l, zbkO_m, zbkO_n, zbkO_0, zback_nil, zback_cons, zat0, zat1, zat2, zat3, zm_split, zm_words, zm_join_l, zm_join_t, zm_upper, zm_lower, D.tyS, Mth.ty, List.getElem?_cons_zero, List.getElem?_cons_succ, List.set_cons_zero, List.set_cons_succ, List.dropLast_cons_cons, List.dropLast_singleton, List.getLast?_cons_cons, List.getLast?_singleton, List.cons_append, List.nil_append, List.append_nil, List.reverse_cons, List.reverse_nil, Option.getD_some, Option.getD_none, Option.some.injEq, Option.bind_some, exists_eq_left', exists_eq_left, exists_eq_right, exists_and_left, true_and, and_true, if_true, if_false, reduceCtorEq, reduceIte, Bool.false_eq_true, Bool.false_xor, Bool.true_xor, List.replicate_succ, List.replicate_zero, List.length_cons, List.length_nil, Nat.zero_add, Nat.reduceAdd, Nat.reduceSub, O.d.injEq, D.int.injEq, Res.d.injEq, B.l.injEq, B.d.injEq, D.bl.injEq, D.str.injEq, D.lst.injEq, D.tup.injEq, Nat.zero_le, $as,*] $l:location)
local macro_rules
  | `(tactic| infer_instance) => `(tactic| repeat (first | (with_reducible first | exact fn_eq | exact gv_eq | refine fn_ne (by decide +kernel) ?_ | refine fn_g ?_ | refine fn_k ?_ | refine kw_ne (by decide +kernel) ?_ | refine kw_a ?_ | refine kw_g ?_ | refine gv_ne (by decide +kernel) ?_ | refine gv_a ?_ | refine gv_k ?_ | refine fn_t ?_ | refine kw_t ?_ | refine gv_t ?_ | exact kd_eq | refine kd_a ?_ | refine kd_k ?_) | exact kw_eq))
set_option maxRecDepth 100000
set_option maxHeartbeats 4000000
def top (i : Nat) : Stmt := PySem.Challenge.pw_doorbeams_k04_lines_about_walls_and_door.main.body.getD i (.Pass ⟨0, 0, 0, 0⟩)
abbrev s_is_count : Stmt := top 1
def N_is_count : List Str := ["thing"]
theorem sc_is_count : FnScope N_is_count ["thing"] (defScope s_is_count) := ⟨by decide +kernel, by decide +kernel, by decide +kernel, by decide +kernel, by decide +kernel, by decide +kernel, by decide +kernel⟩
def b_is_count : List IS := [.ret (.and [.isi .int (.var 0), .not (.isi .bool (.var 0)), .cmp .GtE (.var 0) (.int 0)])]
theorem ck_is_count : chkSs ⟨N_is_count, defScope s_is_count, fun _ => true⟩ b_is_count (defBody s_is_count) = true := by decide +kernel
abbrev s_is_most : Stmt := top 2
def N_is_most : List Str := ["thing"]
theorem sc_is_most : FnScope N_is_most ["thing"] (defScope s_is_most) := ⟨by decide +kernel, by decide +kernel, by decide +kernel, by decide +kernel, by decide +kernel, by decide +kernel, by decide +kernel⟩
def b_is_most : List IS := [.ret (.or [.cmp .Is (.var 0) (.non), .call "is_count" [.var 0]])]
theorem ck_is_most : chkSs ⟨N_is_most, defScope s_is_most, fun _ => true⟩ b_is_most (defBody s_is_most) = true := by decide +kernel
abbrev s_is_less : Stmt := top 3
def N_is_less : List Str := ["one", "other"]
theorem sc_is_less : FnScope N_is_less ["one", "other"] (defScope s_is_less) := ⟨by decide +kernel, by decide +kernel, by decide +kernel, by decide +kernel, by decide +kernel, by decide +kernel, by decide +kernel⟩
def b_is_less : List IS := [.ite (.cmp .Is (.var 0) (.non)) [.ret (.bl false)] [], .ret (.or [.cmp .Is (.var 1) (.non), .cmp .Lt (.var 0) (.var 1)])]
theorem ck_is_less : chkSs ⟨N_is_less, defScope s_is_less, fun _ => true⟩ b_is_less (defBody s_is_less) = true := by decide +kernel
abbrev s_is_name : Stmt := top 7
def N_is_name : List Str := ["thing", "letter"]
theorem sc_is_name : FnScope N_is_name ["thing"] (defScope s_is_name) := ⟨by decide +kernel, by decide +kernel, by decide +kernel, by decide +kernel, by decide +kernel, by decide +kernel, by decide +kernel⟩
def b_is_name : List IS := [.ite (.or [.not (.isi .str (.var 0)), .not (.chn .LtE .LtE (.int 1) (.fn .len [.var 0]) (.glo "LONGEST_NAME"))]) [.ret (.bl false)] [], .ret (.fn .all [.lc (.cmp .In (.var 1) (.glo "LETTERS")) (.nm 1) 0 [.var 0] [] [("letter", 1)]])]
theorem ck_is_name : chkSs ⟨N_is_name, defScope s_is_name, fun _ => true⟩ b_is_name (defBody s_is_name) = true := by decide +kernel
abbrev s_are_ascending : Stmt := top 8
def N_are_ascending : List Str := ["items", "one", "other"]
theorem sc_are_ascending : FnScope N_are_ascending ["items"] (defScope s_are_ascending) := ⟨by decide +kernel, by decide +kernel, by decide +kernel, by decide +kernel, by decide +kernel, by decide +kernel, by decide +kernel⟩
def b_are_ascending : List IS := [.ret (.fn .all [.lc (.cmp .Lt (.var 1) (.var 2)) (.tup [.nm 1, .nm 2]) 4 [.sl (.var 0) none (some (.neg (.int 1))), .sl (.var 0) (some (.int 1)) none] [] [("one", 1), ("other", 2)]])]
theorem ck_are_ascending : chkSs ⟨N_are_ascending, defScope s_are_ascending, fun _ => true⟩ b_are_ascending (defBody s_are_ascending) = true := by decide +kernel
abbrev s_is_room : Stmt := top 9
def N_is_room : List Str := ["rooms", "thing"]
theorem sc_is_room : FnScope N_is_room ["rooms", "thing"] (defScope s_is_room) := ⟨by decide +kernel, by decide +kernel, by decide +kernel, by decide +kernel, by decide +kernel, by decide +kernel, by decide +kernel⟩
def b_is_room : List IS := [.ret (.and [.isi .str (.var 1), .cmp .In (.var 1) (.var 0)])]
theorem ck_is_room : chkSs ⟨N_is_room, defScope s_is_room, fun _ => true⟩ b_is_room (defBody s_is_room) = true := by decide +kernel
abbrev s_are_sides : Stmt := top 10
def N_are_sides : List Str := ["rooms", "one", "other"]
theorem sc_are_sides : FnScope N_are_sides ["rooms", "one", "other"] (defScope s_are_sides) := ⟨by decide +kernel, by decide +kernel, by decide +kernel, by decide +kernel, by decide +kernel, by decide +kernel, by decide +kernel⟩
def b_are_sides : List IS := [.ite (.not (.call "is_room" [.var 0, .var 1])) [.ret (.bl false)] [], .ret (.or [.cmp .Is (.var 2) (.non), .and [.call "is_room" [.var 0, .var 2], .cmp .Lt (.var 1) (.var 2)]])]
theorem ck_are_sides : chkSs ⟨N_are_sides, defScope s_are_sides, fun _ => true⟩ b_are_sides (defBody s_are_sides) = true := by decide +kernel
abbrev s_door_sides : Stmt := top 11
def N_door_sides : List Str := ["building", "name", "one", "other"]
theorem sc_door_sides : FnScope N_door_sides ["building"] (defScope s_door_sides) := ⟨by decide +kernel, by decide +kernel, by decide +kernel, by decide +kernel, by decide +kernel, by decide +kernel, by decide +kernel⟩
def b_door_sides : List IS := [.ret (.dc (.var 1) (.tup [.var 2, .var 3]) (.tup [.nm 1, .nm 2, .nm 3]) 0 [.ix (.var 0) (.int 1)] [] [("name", 1), ("one", 2), ("other", 3)])]
theorem ck_door_sides : chkSs ⟨N_door_sides, defScope s_door_sides, fun _ => true⟩ b_door_sides (defBody s_door_sides) = true := by decide +kernel
abbrev s_is_own_door : Stmt := top 12
def N_is_own_door : List Str := ["building", "thing"]
theorem sc_is_own_door : FnScope N_is_own_door ["building", "thing"] (defScope s_is_own_door) := ⟨by decide +kernel, by decide +kernel, by decide +kernel, by decide +kernel, by decide +kernel, by decide +kernel, by decide +kernel⟩
def b_is_own_door : List IS := [.ret (.and [.isi .str (.var 1), .cmp .In (.var 1) (.call "door_sides" [.var 0])])]
theorem ck_is_own_door : chkSs ⟨N_is_own_door, defScope s_is_own_door, fun _ => true⟩ b_is_own_door (defBody s_is_own_door) = true := by decide +kernel
abbrev s_doors_of : Stmt := top 13
def N_doors_of : List Str := ["building", "room", "name", "one", "other"]
theorem sc_doors_of : FnScope N_doors_of ["building", "room"] (defScope s_doors_of) := ⟨by decide +kernel, by decide +kernel, by decide +kernel, by decide +kernel, by decide +kernel, by decide +kernel, by decide +kernel⟩
def b_doors_of : List IS := [.ret (.lc (.var 2) (.tup [.nm 2, .nm 3, .nm 4]) 0 [.ix (.var 0) (.int 1)] [.cmp .In (.var 1) (.tup [.var 3, .var 4])] [("name", 2), ("one", 3), ("other", 4)])]
theorem ck_doors_of : chkSs ⟨N_doors_of, defScope s_doors_of, fun _ => true⟩ b_doors_of (defBody s_doors_of) = true := by decide +kernel
abbrev s_are_bounds : Stmt := top 14
def N_are_bounds : List Str := ["least", "most"]
theorem sc_are_bounds : FnScope N_are_bounds ["least", "most"] (defScope s_are_bounds) := ⟨by decide +kernel, by decide +kernel, by decide +kernel, by decide +kernel, by decide +kernel, by decide +kernel, by decide +kernel⟩
def b_are_bounds : List IS := [.ret (.and [.call "is_count" [.var 0], .call "is_most" [.var 1], .not (.call "is_less" [.var 1, .var 0])])]
theorem ck_are_bounds : chkSs ⟨N_are_bounds, defScope s_are_bounds, fun _ => true⟩ b_are_bounds (defBody s_are_bounds) = true := by decide +kernel
abbrev s_is_passage : Stmt := top 15
def N_is_passage : List Str := ["building", "door", "side"]
theorem sc_is_passage : FnScope N_is_passage ["building", "door", "side"] (defScope s_is_passage) := ⟨by decide +kernel, by decide +kernel, by decide +kernel, by decide +kernel, by decide +kernel, by decide +kernel, by decide +kernel⟩
def b_is_passage : List IS := [.ite (.or [.not (.call "is_own_door" [.var 0, .var 1]), .and [.cmp .IsNot (.var 2) (.non), .not (.isi .str (.var 2))]]) [.ret (.bl false)] [], .ret (.cmp .In (.var 2) (.ix (.call "door_sides" [.var 0]) (.var 1)))]
theorem ck_is_passage : chkSs ⟨N_is_passage, defScope s_is_passage, fun _ => true⟩ b_is_passage (defBody s_is_passage) = true := by decide +kernel
abbrev s_is_room_count : Stmt := top 16
def N_is_room_count : List Str := ["building", "room", "least", "most"]
theorem sc_is_room_count : FnScope N_is_room_count ["building", "room", "least", "most"] (defScope s_is_room_count) := ⟨by decide +kernel, by decide +kernel, by decide +kernel, by decide +kernel, by decide +kernel, by decide +kernel, by decide +kernel⟩
def b_is_room_count : List IS := [.ret (.and [.call "is_room" [.ix (.var 0) (.int 0), .var 1], .call "are_bounds" [.var 2, .var 3]])]
theorem ck_is_room_count : chkSs ⟨N_is_room_count, defScope s_is_room_count, fun _ => true⟩ b_is_room_count (defBody s_is_room_count) = true := by decide +kernel
abbrev s_is_whole_count : Stmt := top 17
def N_is_whole_count : List Str := ["building", "least", "most"]
theorem sc_is_whole_count : FnScope N_is_whole_count ["building", "least", "most"] (defScope s_is_whole_count) := ⟨by decide +kernel, by decide +kernel, by decide +kernel, by decide +kernel, by decide +kernel, by decide +kernel, by decide +kernel⟩
def b_is_whole_count : List IS := [.ret (.call "are_bounds" [.var 1, .var 2])]
theorem ck_is_whole_count : chkSs ⟨N_is_whole_count, defScope s_is_whole_count, fun _ => true⟩ b_is_whole_count (defBody s_is_whole_count) = true := by decide +kernel
abbrev s_is_joining : Stmt := top 18
def N_is_joining : List Str := ["building", "one", "other", "new", "rooms", "room"]
theorem sc_is_joining : FnScope N_is_joining ["building", "one", "other", "new"] (defScope s_is_joining) := ⟨by decide +kernel, by decide +kernel, by decide +kernel, by decide +kernel, by decide +kernel, by decide +kernel, by decide +kernel⟩
def b_is_joining : List IS := [.set 4 (.ix (.var 0) (.int 0)), .ite (.or [.not (.call "is_room" [.var 4, .var 1]), .not (.call "is_room" [.var 4, .var 2]), .cmp .Eq (.var 1) (.var 2)]) [.ret (.bl false)] [], .frz 4, .ret (.and [.call "is_name" [.var 3], .cmp .NotIn (.var 3) (.lc (.var 5) (.nm 5) 0 [.var 4] [.cmp .NotIn (.var 5) (.tup [.var 1, .var 2])] [("room", 5)])])]
theorem ck_is_joining : chkSs ⟨N_is_joining, defScope s_is_joining, fun _ => true⟩ b_is_joining (defBody s_is_joining) = true := by decide +kernel
abbrev s_is_parting : Stmt := top 19
def N_is_parting : List Str := ["building", "room", "one", "other", "doors", "rooms", "others", "own", "name", "door"]
theorem sc_is_parting : FnScope N_is_parting ["building", "room", "one", "other", "doors"] (defScope s_is_parting) := ⟨by decide +kernel, by decide +kernel, by decide +kernel, by decide +kernel, by decide +kernel, by decide +kernel, by decide +kernel⟩
def b_is_parting : List IS := [.set 5 (.ix (.var 0) (.int 0)), .ite (.or [.not (.call "is_room" [.var 5, .var 1]), .not (.call "is_name" [.var 2]), .not (.call "is_name" [.var 3]), .cmp .Eq (.var 2) (.var 3)]) [.ret (.bl false)] [], .frz 5, .set 6 (.lc (.var 8) (.nm 8) 0 [.var 5] [.cmp .NotEq (.var 8) (.var 1)] [("name", 8)]), .ite (.or [.cmp .In (.var 2) (.var 6), .cmp .In (.var 3) (.var 6), .not (.isi .tuple (.var 4))]) [.ret (.bl false)] [], .set 7 (.call "doors_of" [.var 0, .var 1]), .frz 7, .ret (.and [.fn .all [.lc (.and [.isi .str (.var 9), .cmp .In (.var 9) (.var 7)]) (.nm 9) 0 [.var 4] [] [("door", 9)]], .call "are_ascending" [.var 4]])]
theorem ck_is_parting : chkSs ⟨N_is_parting, defScope s_is_parting, fun _ => true⟩ b_is_parting (defBody s_is_parting) = true := by decide +kernel
abbrev s_is_new_door : Stmt := top 20
def N_is_new_door : List Str := ["building", "name", "one", "other"]
theorem sc_is_new_door : FnScope N_is_new_door ["building", "name", "one", "other"] (defScope s_is_new_door) := ⟨by decide +kernel, by decide +kernel, by decide +kernel, by decide +kernel, by decide +kernel, by decide +kernel, by decide +kernel⟩
def b_is_new_door : List IS := [.ret (.and [.call "is_name" [.var 1], .not (.call "is_own_door" [.var 0, .var 1]), .call "are_sides" [.ix (.var 0) (.int 0), .var 2, .var 3]])]
theorem ck_is_new_door : chkSs ⟨N_is_new_door, defScope s_is_new_door, fun _ => true⟩ b_is_new_door (defBody s_is_new_door) = true := by decide +kernel
abbrev s_is_line : Stmt := top 22
def N_is_line : List Str := ["building", "thing", "word", "parts", "count", "is_right"]
theorem sc_is_line : FnScope N_is_line ["building", "thing"] (defScope s_is_line) := ⟨by decide +kernel, by decide +kernel, by decide +kernel, by decide +kernel, by decide +kernel, by decide +kernel, by decide +kernel⟩
def b_is_line : List IS := [.ite (.or [.not (.isi .tuple (.var 1)), .cmp .Eq (.var 1) (.tup []), .not (.isi .str (.ix (.var 1) (.int 0))), .kin true (.ix (.var 1) (.int 0)) "LINE_CHECKS"]) [.ret (.bl false)] [], .unps 2 3 (.var 1), .disp "LINE_CHECKS" 2 3 0 4 5]
theorem ck_is_line : chkSs ⟨N_is_line, defScope s_is_line, fun _ => true⟩ b_is_line (defBody s_is_line) = true := by decide +kernel
abbrev s_law_deck : Stmt := top 24
def N_law_deck : List Str := ["_law_script", "_law_cells", "_law_mixed", "_law_cell"]
theorem sc_law_deck : FnScope ["_law_script", "_law_cells", "_law_mixed", "_law_cell"] ["_law_script"] (defScope s_law_deck) := ⟨by decide +kernel, by decide +kernel, by decide +kernel, by decide +kernel, by decide +kernel, by decide +kernel, by decide +kernel⟩
theorem ck_law_deck : chkDeck ⟨["_law_script", "_law_cells", "_law_mixed", "_law_cell"], defScope s_law_deck, fun _ => true⟩ (defBody s_law_deck) = true := by decide +kernel
abbrev s_law_draw : Stmt := top 25
def N_law_draw : List Str := ["_law_deck_here", "_law_many", "_law_cell", "_law_number"]
theorem sc_law_draw : FnScope ["_law_deck_here", "_law_many", "_law_cell", "_law_number"] ["_law_deck_here", "_law_many"] (defScope s_law_draw) := ⟨by decide +kernel, by decide +kernel, by decide +kernel, by decide +kernel, by decide +kernel, by decide +kernel, by decide +kernel⟩
theorem ck_law_draw : chkDraw ⟨["_law_deck_here", "_law_many", "_law_cell", "_law_number"], defScope s_law_draw, fun _ => true⟩ (defBody s_law_draw) = true := by decide +kernel
abbrev s_law_pick : Stmt := top 26
def N_law_pick : List Str := ["_law_deck_here", "_law_some"]
theorem sc_law_pick : FnScope N_law_pick ["_law_deck_here", "_law_some"] (defScope s_law_pick) := ⟨by decide +kernel, by decide +kernel, by decide +kernel, by decide +kernel, by decide +kernel, by decide +kernel, by decide +kernel⟩
def b_law_pick : List IS := [.ret (.ix (.var 1) (.call "_law_draw" [.var 0, .fn .len [.var 1]]))]
theorem ck_law_pick : chkSs ⟨N_law_pick, defScope s_law_pick, fun _ => true⟩ b_law_pick (defBody s_law_pick) = true := by decide +kernel
abbrev s_law_names : Stmt := top 27
def N_law_names : List Str := ["_law_deck_here", "_law_many", "_law_way", "_law_first", "_law_words", "_law_found", "_law_k", "_law_letter", "_law_begun"]
theorem sc_law_names : FnScope N_law_names ["_law_deck_here", "_law_many"] (defScope s_law_names) := ⟨by decide +kernel, by decide +kernel, by decide +kernel, by decide +kernel, by decide +kernel, by decide +kernel, by decide +kernel⟩
def b_law_names : List IS := [.par [2, 3] [.call "_law_draw" [.var 0, .int 4], .call "_law_draw" [.var 0, .int 26]], .set 4 (.str "all any as ask beam door from joined new open outside parted room same shut table to went with wall"), .par [4, 5] [.mth .split (.var 4) [.str " "], .lst []], .frz 2, .frz 3, .frz 4, .for_ (.nm 6) 1 [.var 1] [.set 7 (.ix (.str "abcdefghijklmnopqrstuvwxyz") (.bin .Mod (.bin .Add (.var 3) (.bin .Mult (.int 7) (.var 6))) (.int 26))), .set 8 (.ite (.cmp .Lt (.var 6) (.int 8)) (.sl (.str "corridor") none (some (.bin .Add (.int 1) (.var 6)))) (.bin .Add (.str "hall") (.var 7))), .drop (.app 5 (.ix (.lst [.var 7, .ix (.var 4) (.bin .Mod (.bin .Add (.var 3) (.bin .Mult (.int 3) (.var 6))) (.int 20)), .bin .Add (.str "passage") (.var 7), .var 8]) (.var 2)))], .ret (.var 5)]
theorem ck_law_names : chkSs ⟨N_law_names, defScope s_law_names, fun _ => true⟩ b_law_names (defBody s_law_names) = true := by decide +kernel
abbrev s_law_house : Stmt := top 28
def N_law_house : List Str := ["_law_deck_here", "_law_names_here", "_law_most_rooms", "_law_most_doors", "_law_rooms", "_law_found", "_law_k", "_law_side", "_law_far", "_law_ends"]
theorem sc_law_house : FnScope N_law_house ["_law_deck_here", "_law_names_here", "_law_most_rooms", "_law_most_doors"] (defScope s_law_house) := ⟨by decide +kernel, by decide +kernel, by decide +kernel, by decide +kernel, by decide +kernel, by decide +kernel, by decide +kernel⟩
def b_law_house : List IS := [.set 4 (.fn .sorted [.sl (.var 1) none (some (.bin .Add (.int 1) (.call "_law_draw" [.var 0, .var 2])))]), .set 5 (.lst []), .frz 4, .for_ (.nm 6) 1 [.call "_law_draw" [.var 0, .bin .Add (.var 3) (.int 1)]] [.par [7, 8] [.call "_law_pick" [.var 0, .var 4], .call "_law_pick" [.var 0, .bin .Add (.var 4) (.lst [.non])]], .set 9 (.ite (.cmp .In (.var 8) (.tup [.non, .var 7])) (.tup [.var 7, .non]) (.tup [.fn .min [.var 7, .var 8], .fn .max [.var 7, .var 8]])), .drop (.app 5 (.bin .Add (.tup [.ix (.lst [.ix (.var 1) (.var 6), .ix (.var 1) (.bin .Sub (.int 19) (.var 6))]) (.call "_law_draw" [.var 0, .int 2])]) (.var 9)))], .ret (.tup [.fn .tuple [.var 4], .fn .tuple [.fn .sorted [.var 5]]])]
theorem ck_law_house : chkSs ⟨N_law_house, defScope s_law_house, fun _ => true⟩ b_law_house (defBody s_law_house) = true := by decide +kernel
abbrev s_law_bent : Stmt := top 29
def N_law_bent : List Str := ["_law_deck_here", "_law_it", "_law_way", "_law_at", "_law_some", "_law_odd"]
theorem sc_law_bent : FnScope N_law_bent ["_law_deck_here", "_law_it"] (defScope s_law_bent) := ⟨by decide +kernel, by decide +kernel, by decide +kernel, by decide +kernel, by decide +kernel, by decide +kernel, by decide +kernel⟩
def b_law_bent : List IS := [.set 2 (.call "_law_draw" [.var 0, .int 9]), .ite (.or [.not (.isi .tuple (.var 1)), .cmp .Eq (.var 1) (.tup []), .cmp .Eq (.var 2) (.int 0)]) [.set 5 (.lst [.non, .bl true, .bl false, .int 0, .int 1, .neg (.int 1), .bin .Pow (.int 10) (.int 39), .str "", .str "a", .str "zz", .str "A", .str "outside", .tup [], .lst [], .dct [], .tup [.non], .lst [.var 1], .tup [.var 1]]), .ite (.isi .int (.var 1)) [.set 5 (.bin .Add (.var 5) (.lst [.bin .Add (.var 1) (.int 1), .bin .Sub (.var 1) (.int 1), .cmp .Eq (.var 1) (.int 1), .fn .str [.var 1]]))] [], .ite (.isi .str (.var 1)) [.set 5 (.bin .Add (.var 5) (.lst [.bin .Add (.var 1) (.str "a"), .sl (.var 1) (some (.int 1)) none, .mth .upper (.var 1) [], .bin .Add (.var 1) (.str " "), .bin .Mult (.var 1) (.int 3)]))] [], .ret (.call "_law_pick" [.var 0, .var 5])] [], .set 3 (.call "_law_draw" [.var 0, .fn .len [.var 1]]), .set 4 (.lst [.bin .Add (.sl (.var 1) none (some (.var 3))) (.sl (.var 1) (some (.bin .Add (.var 3) (.int 1))) none), .bin .Add (.sl (.var 1) none (some (.bin .Add (.var 3) (.int 1)))) (.sl (.var 1) (some (.var 3)) none), .rev (.var 1), .fn .list [.var 1]]), .ite (.cmp .Lt (.var 2) (.int 5)) [.ret (.ix (.var 4) (.bin .Sub (.var 2) (.int 1)))] [], .ret (.bin .Add (.bin .Add (.sl (.var 1) none (some (.var 3))) (.tup [.call "_law_bent" [.var 0, .ix (.var 1) (.var 3)]])) (.sl (.var 1) (some (.bin .Add (.var 3) (.int 1))) none))]
theorem ck_law_bent : chkSs ⟨N_law_bent, defScope s_law_bent, fun _ => true⟩ b_law_bent (defBody s_law_bent) = true := by decide +kernel
abbrev s_law_is_name : Stmt := top 30
def N_law_is_name : List Str := ["_law_it", "_law_sign"]
theorem sc_law_is_name : FnScope N_law_is_name ["_law_it"] (defScope s_law_is_name) := ⟨by decide +kernel, by decide +kernel, by decide +kernel, by decide +kernel, by decide +kernel, by decide +kernel, by decide +kernel⟩
def b_law_is_name : List IS := [.ite (.or [.not (.isi .str (.var 0)), .cmp .Eq (.fn .len [.var 0]) (.int 0), .cmp .Gt (.fn .len [.var 0]) (.int 8)]) [.ret (.bl false)] [], .ret (.cmp .Eq (.lc (.var 1) (.nm 1) 0 [.var 0] [.cmp .NotIn (.var 1) (.str "abcdefghijklmnopqrstuvwxyz")] [("_law_sign", 1)]) (.lst []))]
theorem ck_law_is_name : chkSs ⟨N_law_is_name, defScope s_law_is_name, fun _ => true⟩ b_law_is_name (defBody s_law_is_name) = true := by decide +kernel
abbrev s_law_sides : Stmt := top 31
def N_law_sides : List Str := ["_law_house_here", "_law_door"]
theorem sc_law_sides : FnScope N_law_sides ["_law_house_here"] (defScope s_law_sides) := ⟨by decide +kernel, by decide +kernel, by decide +kernel, by decide +kernel, by decide +kernel, by decide +kernel, by decide +kernel⟩
def b_law_sides : List IS := [.ret (.fn .dict [.lc (.tup [.ix (.var 1) (.int 0), .sl (.var 1) (some (.int 1)) none]) (.nm 1) 0 [.ix (.var 0) (.int 1)] [] [("_law_door", 1)]])]
theorem ck_law_sides : chkSs ⟨N_law_sides, defScope s_law_sides, fun _ => true⟩ b_law_sides (defBody s_law_sides) = true := by decide +kernel
abbrev s_law_is_one_of : Stmt := top 32
def N_law_is_one_of : List Str := ["_law_it", "_law_some"]
theorem sc_law_is_one_of : FnScope N_law_is_one_of ["_law_it", "_law_some"] (defScope s_law_is_one_of) := ⟨by decide +kernel, by decide +kernel, by decide +kernel, by decide +kernel, by decide +kernel, by decide +kernel, by decide +kernel⟩
def b_law_is_one_of : List IS := [.ret (.and [.isi .str (.var 0), .cmp .In (.var 0) (.var 1)])]
theorem ck_law_is_one_of : chkSs ⟨N_law_is_one_of, defScope s_law_is_one_of, fun _ => true⟩ b_law_is_one_of (defBody s_law_is_one_of) = true := by decide +kernel
abbrev s_law_are_bounds : Stmt := top 33
def N_law_are_bounds : List Str := ["_law_least", "_law_most", "_law_it"]
theorem sc_law_are_bounds : FnScope N_law_are_bounds ["_law_least", "_law_most"] (defScope s_law_are_bounds) := ⟨by decide +kernel, by decide +kernel, by decide +kernel, by decide +kernel, by decide +kernel, by decide +kernel, by decide +kernel⟩
def b_law_are_bounds : List IS := [.for_ (.nm 2) 0 [.tup [.var 0, .var 1]] [.ite (.and [.cmp .IsNot (.var 2) (.non), .or [.not (.isi .int (.var 2)), .isi .bool (.var 2), .cmp .Lt (.var 2) (.int 0)]]) [.ret (.bl false)] []], .ret (.and [.cmp .IsNot (.var 0) (.non), .or [.cmp .Is (.var 1) (.non), .cmp .LtE (.var 0) (.var 1)]])]
theorem ck_law_are_bounds : chkSs ⟨N_law_are_bounds, defScope s_law_are_bounds, fun _ => true⟩ b_law_are_bounds (defBody s_law_are_bounds) = true := by decide +kernel
abbrev s_law_is_fence_line : Stmt := top 34
def N_law_is_fence_line : List Str := ["_law_house_here", "_law_it", "_law_rooms", "_law_doors", "_law_left", "_law_own", "_law_room", "_law_door", "_law_half"]
theorem sc_law_is_fence_line : FnScope N_law_is_fence_line ["_law_house_here", "_law_it"] (defScope s_law_is_fence_line) := ⟨by decide +kernel, by decide +kernel, by decide +kernel, by decide +kernel, by decide +kernel, by decide +kernel, by decide +kernel⟩
def b_law_is_fence_line : List IS := [.par [2, 3] [.fn .list [.ix (.var 0) (.int 0)], .call "_law_sides" [.var 0]], .ite (.and [.cmp .Eq (.ix (.var 1) (.int 0)) (.str "joined"), .cmp .Eq (.fn .len [.var 1]) (.int 4)]) [.ite (.or [.cmp .Eq (.ix (.var 1) (.int 1)) (.ix (.var 1) (.int 2)), .not (.call "_law_is_one_of" [.ix (.var 1) (.int 1), .var 2]), .not (.call "_law_is_one_of" [.ix (.var 1) (.int 2), .var 2])]) [.ret (.bl false)] [], .frz 2, .ret (.and [.call "_law_is_name" [.ix (.var 1) (.int 3)], .cmp .NotIn (.ix (.var 1) (.int 3)) (.lc (.var 6) (.nm 6) 0 [.var 2] [.cmp .NotIn (.var 6) (.sl (.var 1) (some (.int 1)) (some (.int 3)))] [("_law_room", 6)])])] [], .ite (.and [.cmp .Eq (.ix (.var 1) (.int 0)) (.str "parted"), .cmp .Eq (.fn .len [.var 1]) (.int 5)]) [.frz 2, .unp (.tup [.nm 4, .nm 5]) (.tup [.lc (.var 6) (.nm 6) 0 [.var 2] [.cmp .NotEq (.var 6) (.ix (.var 1) (.int 1))] [("_law_room", 6)], .lc (.ix (.var 7) (.int 0)) (.nm 7) 0 [.ix (.var 0) (.int 1)] [.cmp .In (.ix (.var 1) (.int 1)) (.sl (.var 7) (some (.int 1)) none)] [("_law_door", 7)]]), .ite (.or [.not (.call "_law_is_one_of" [.ix (.var 1) (.int 1), .var 2]), .cmp .Eq (.ix (.var 1) (.int 2)) (.ix (.var 1) (.int 3)), .not (.isi .tuple (.ix (.var 1) (.int 4)))]) [.ret (.bl false)] [], .ite (.cmp .NotEq (.lc (.var 8) (.nm 8) 0 [.sl (.var 1) (some (.int 2)) (some (.int 4))] [.or [.not (.call "_law_is_name" [.var 8]), .cmp .In (.var 8) (.var 4)]] [("_law_half", 8)]) (.lst [])) [.ret (.bl false)] [], .frz 5, .ret (.and [.cmp .Eq (.lc (.var 7) (.nm 7) 0 [.ix (.var 1) (.int 4)] [.not (.call "_law_is_one_of" [.var 7, .var 5])] [("_law_door", 7)]) (.lst []), .cmp .Eq (.fn .list [.ix (.var 1) (.int 4)]) (.sset (.ix (.var 1) (.int 4)))])] [], .ite (.or [.cmp .NotEq (.ix (.var 1) (.int 0)) (.str "door"), .cmp .NotEq (.fn .len [.var 1]) (.int 4), .not (.call "_law_is_name" [.ix (.var 1) (.int 1)]), .cmp .In (.ix (.var 1) (.int 1)) (.var 3)]) [.ret (.bl false)] [], .ret (.and [.call "_law_is_one_of" [.ix (.var 1) (.int 2), .var 2], .or [.cmp .Is (.ix (.var 1) (.int 3)) (.non), .and [.call "_law_is_one_of" [.ix (.var 1) (.int 3), .var 2], .cmp .Lt (.ix (.var 1) (.int 2)) (.ix (.var 1) (.int 3))]]])]
theorem ck_law_is_fence_line : chkSs ⟨N_law_is_fence_line, defScope s_law_is_fence_line, fun _ => true⟩ b_law_is_fence_line (defBody s_law_is_fence_line) = true := by decide +kernel
abbrev s_law_is_line : Stmt := top 35
def N_law_is_line : List Str := ["_law_house_here", "_law_it", "_law_word", "_law_many", "_law_doors"]
theorem sc_law_is_line : FnScope N_law_is_line ["_law_house_here", "_law_it"] (defScope s_law_is_line) := ⟨by decide +kernel, by decide +kernel, by decide +kernel, by decide +kernel, by decide +kernel, by decide +kernel, by decide +kernel⟩
def b_law_is_line : List IS := [.ite (.or [.not (.isi .tuple (.var 1)), .cmp .Eq (.var 1) (.tup []), .not (.isi .str (.ix (.var 1) (.int 0)))]) [.ret (.bl false)] [], .par [2, 3, 4] [.ix (.var 1) (.int 0), .fn .len [.var 1], .call "_law_sides" [.var 0]], .ite (.cmp .In (.var 2) (.tup [.str "beam", .str "open", .str "shut"])) [.ret (.and [.cmp .Eq (.var 3) (.int 2), .call "_law_is_one_of" [.ix (.var 1) (.int 1), .var 4]])] [], .ite (.cmp .Eq (.var 2) (.str "went")) [.ite (.or [.cmp .NotEq (.var 3) (.int 3), .not (.call "_law_is_one_of" [.ix (.var 1) (.int 1), .var 4])]) [.ret (.bl false)] [], .ret (.cmp .In (.ix (.var 1) (.int 2)) (.ix (.var 4) (.ix (.var 1) (.int 1))))] [], .ite (.cmp .Eq (.var 2) (.str "room")) [.ret (.and [.cmp .Eq (.var 3) (.int 4), .call "_law_is_one_of" [.ix (.var 1) (.int 1), .ix (.var 0) (.int 0)], .call "_law_are_bounds" [.ix (.var 1) (.int 2), .ix (.var 1) (.int 3)]])] [], .ite (.cmp .Eq (.var 2) (.str "all")) [.ret (.and [.cmp .Eq (.var 3) (.int 3), .call "_law_are_bounds" [.ix (.var 1) (.int 1), .ix (.var 1) (.int 2)]])] [], .ret (.call "_law_is_fence_line" [.var 0, .var 1])]
theorem ck_law_is_line : chkSs ⟨N_law_is_line, defScope s_law_is_line, fun _ => true⟩ b_law_is_line (defBody s_law_is_line) = true := by decide +kernel
abbrev s_law_try : Stmt := top 36
def N_law_try : List Str := ["_law_deck_here", "_law_house_here", "_law_names_here", "_law_rooms", "_law_called", "_law_some", "_law_way", "_law_one", "_law_far", "_law_new", "_law_own", "_law_room", "_law_turned", "_law_k", "_law_door", "_law_name"]
theorem sc_law_try : FnScope N_law_try ["_law_deck_here", "_law_house_here", "_law_names_here"] (defScope s_law_try) := ⟨by decide +kernel, by decide +kernel, by decide +kernel, by decide +kernel, by decide +kernel, by decide +kernel, by decide +kernel⟩
def b_law_try : List IS := [.par [3, 4] [.fn .list [.ix (.var 1) (.int 0)], .lc (.ix (.var 14) (.int 0)) (.nm 14) 0 [.ix (.var 1) (.int 1)] [] [("_law_door", 14)]], .unp (.tup [.nm 5, .nm 6]) (.tup [.bin .Add (.bin .Add (.var 3) (.var 3)) (.sl (.var 2) none (some (.int 9))), .call "_law_draw" [.var 0, .int 5]]), .frz 5, .unp (.tup [.nm 7, .nm 8, .nm 9]) (.lc (.call "_law_pick" [.var 0, .var 5]) (.nm 13) 1 [.int 3] [] [("_law_k", 13)]), .ite (.cmp .Eq (.var 6) (.int 0)) [.ret (.tup [.str "joined", .call "_law_pick" [.var 0, .var 3], .var 8, .var 9])] [], .ite (.cmp .Eq (.var 6) (.int 1)) [.frz 4, .set 10 (.lc (.var 15) (.nm 15) 0 [.var 4] [.cmp .Eq (.call "_law_draw" [.var 0, .int 2]) (.int 0)] [("_law_name", 15)]), .ret (.tup [.str "parted", .var 7, .var 8, .var 9, .fn .tuple [.var 10]])] [], .ite (.cmp .Eq (.var 6) (.int 2)) [.set 11 (.call "_law_pick" [.var 0, .var 3]), .frz 11, .set 10 (.lc (.ix (.var 14) (.int 0)) (.nm 14) 0 [.ix (.var 1) (.int 1)] [.and [.cmp .In (.var 11) (.sl (.var 14) (some (.int 1)) none), .cmp .Eq (.call "_law_draw" [.var 0, .int 2]) (.int 0)]] [("_law_door", 14)]), .set 12 (.ite (.cmp .Eq (.call "_law_draw" [.var 0, .int 4]) (.int 0)) (.rev (.var 10)) (.var 10)), .ret (.tup [.str "parted", .var 11, .call "_law_pick" [.var 0, .lst [.var 11, .var 8]], .var 9, .fn .tuple [.var 12]])] [], .ite (.cmp .Eq (.var 6) (.int 3)) [.ret (.tup [.str "door", .call "_law_pick" [.var 0, .bin .Add (.var 4) (.var 2)], .var 7, .call "_law_pick" [.var 0, .bin .Add (.var 5) (.lst [.non])]])] [], .ret (.tup [.str "shut", .call "_law_pick" [.var 0, .bin .Add (.var 4) (.sl (.var 2) none (some (.int 2)))]])]
theorem ck_law_try : chkSs ⟨N_law_try, defScope s_law_try, fun _ => true⟩ b_law_try (defBody s_law_try) = true := by decide +kernel
abbrev s_law_by_hand : Stmt := top 37
def N_law_by_hand : List Str := ["_law_house_here", "_law_found", "_law_doors", "_law_one", "_law_far", "_law_new", "_law_line", "_law_is_so"]
theorem sc_law_by_hand : FnScope N_law_by_hand [] (defScope s_law_by_hand) := ⟨by decide +kernel, by decide +kernel, by decide +kernel, by decide +kernel, by decide +kernel, by decide +kernel, by decide +kernel⟩
def b_law_by_hand : List IS := [.set 0 (.tup [.tup [.str "a", .str "b", .str "c"], .tup [.tup [.str "a", .str "a", .str "b"], .tup [.str "d", .str "b", .str "c"], .tup [.str "e", .str "b", .non]]]), .set 1 (.lc (.tup [.tup [.str "joined", .str "a", .str "b", .var 5], .cmp .NotEq (.var 5) (.str "c")]) (.nm 5) 0 [.tup [.str "a", .str "b", .str "c", .str "d", .str "z"]] [] [("_law_new", 5)]), .set 1 (.bin .Add (.var 1) (.lst [.tup [.tup [.str "joined", .str "a", .str "a", .str "z"], .bl false], .tup [.tup [.str "joined", .str "b", .str "a", .str "a"], .bl true]])), .set 1 (.bin .Add (.var 1) (.lc (.tup [.tup [.str "parted", .str "b", .var 3, .var 4, .tup []], .bl true]) (.tup [.nm 3, .nm 4]) 0 [.tup [.tup [.str "b", .str "z"], .tup [.str "z", .str "b"], .tup [.str "x", .str "y"]]] [] [("_law_one", 3), ("_law_far", 4)])), .set 1 (.bin .Add (.var 1) (.lc (.tup [.tup [.str "parted", .str "b", .var 3, .var 4, .tup []], .bl false]) (.tup [.nm 3, .nm 4]) 0 [.tup [.tup [.str "b", .str "b"], .tup [.str "a", .str "b"], .tup [.str "z", .str "c"]]] [] [("_law_one", 3), ("_law_far", 4)])), .for_ (.nm 2) 0 [.tup [.tup [], .tup [.str "a"], .tup [.str "a", .str "d"], .tup [.str "a", .str "d", .str "e"], .tup [.str "e"]]] [.drop (.app 1 (.tup [.tup [.str "parted", .str "b", .str "b", .str "z", .var 2], .bl true]))], .for_ (.nm 2) 0 [.tup [.tup [.str "d", .str "a"], .tup [.str "a", .str "a"], .tup [.str "z"], .lst [.str "a"], .str "a", .non]] [.drop (.app 1 (.tup [.tup [.str "parted", .str "b", .str "b", .str "z", .var 2], .bl false]))], .set 1 (.bin .Add (.var 1) (.lst [.tup [.tup [.str "parted", .str "a", .str "a", .str "z", .tup [.str "d"]], .bl false], .tup [.tup [.str "parted", .str "z", .str "x", .str "y", .tup []], .bl false]])), .set 1 (.bin .Add (.var 1) (.lst [.tup [.tup [.str "door", .str "b", .str "a", .str "b"], .bl true], .tup [.tup [.str "door", .str "z", .str "c", .non], .bl true], .tup [.tup [.str "shut", .str "e"], .bl true]])), .for_ (.tup [.nm 3, .nm 4]) 0 [.tup [.tup [.str "b", .str "a"], .tup [.str "a", .str "a"], .tup [.non, .str "a"], .tup [.str "z", .non]]] [.drop (.app 1 (.tup [.tup [.str "door", .str "z", .var 3, .var 4], .bl false]))], .set 1 (.bin .Add (.var 1) (.lst [.tup [.tup [.str "door", .str "a", .str "a", .str "b"], .bl false], .tup [.tup [.str "shut", .str "b"], .bl false]])), .frz 0, .ret (.lc (.tup [.var 0, .var 6, .var 7]) (.tup [.nm 6, .nm 7]) 0 [.var 1] [] [("_law_line", 6), ("_law_is_so", 7)])]
theorem ck_law_by_hand : chkSs ⟨N_law_by_hand, defScope s_law_by_hand, fun _ => true⟩ b_law_by_hand (defBody s_law_by_hand) = true := by decide +kernel
abbrev s_law_so : Stmt := top 38
def N_law_so : List Str := ["_law_house_here", "_law_it", "_law_kept", "_law_due", "_law_told"]
theorem sc_law_so : FnScope N_law_so ["_law_house_here", "_law_it"] (defScope s_law_so) := ⟨by decide +kernel, by decide +kernel, by decide +kernel, by decide +kernel, by decide +kernel, by decide +kernel, by decide +kernel⟩
def b_law_so : List IS := [.par [2, 3] [.fn .repr [.tup [.var 0, .var 1]], .call "_law_is_line" [.var 0, .var 1]], .set 4 (.lst [.call "is_line" [.var 0, .var 1], .kcall "is_line" ["thing", "building"] [.var 1, .var 0]]), .ret (.and [.cmp .Eq (.fn .repr [.var 4]) (.fn .repr [.lst [.var 3, .var 3]]), .cmp .Eq (.fn .repr [.tup [.var 0, .var 1]]) (.var 2)])]
theorem ck_law_so : chkSs ⟨N_law_so, defScope s_law_so, fun _ => true⟩ b_law_so (defBody s_law_so) = true := by decide +kernel
abbrev s_law : Stmt := top 39
def N_law : List Str := ["_law_script", "_law_deck_here", "_law_house_here", "_law_it", "_law_is_so", "_law_turn", "_law_names_here", "_law_again"]
theorem sc_law : FnScope N_law ["_law_script"] (defScope s_law) := ⟨by decide +kernel, by decide +kernel, by decide +kernel, by decide +kernel, by decide +kernel, by decide +kernel, by decide +kernel⟩
def b_law : List IS := [.for_ (.tup [.nm 2, .nm 3, .nm 4]) 0 [.call "_law_by_hand" []] [.ite (.or [.cmp .NotEq (.call "is_line" [.var 2, .var 3]) (.var 4), .not (.call "_law_so" [.var 2, .var 3])]) [.ret (.bl false)] []], .frz 1, .for_ (.nm 5) 1 [.int 6] [.set 6 (.call "_law_names" [.var 1, .int 20]), .set 2 (.call "_law_house" [.var 1, .var 6, .int 5, .int 8]), .frz 1, .frz 2, .frz 6, .for_ (.nm 7) 1 [.int 30] [.set 3 (.call "_law_try" [.var 1, .var 2, .var 6]), .ite (.or [.not (.call "_law_so" [.var 2, .var 3]), .not (.call "_law_so" [.var 2, .call "_law_bent" [.var 1, .var 3]])]) [.ret (.bl false)] [], .ite (.not (.call "_law_so" [.var 2, .call "_law_bent" [.var 1, .call "_law_bent" [.var 1, .var 3]]])) [.ret (.bl false)] []]], .ret (.bl true)]
theorem ck_law : (match chkMk ⟨N_law, defScope s_law, fun _ => true⟩ "_law_deck" (defBody s_law) with
    | some rest => chkSs ⟨N_law, defScope s_law, fun _ => true⟩ b_law rest
    | none => false) = true := by decide +kernel
set_option maxRecDepth 100000
set_option maxHeartbeats 4000000
def pfName : List D → (Res → Prop) → Prop
  | [d], R => Av d ∧ R (.d (.bl (isNm d)))
  | _, _ => False
theorem strIn_let (c : Nat) : strIn ⟨#[c]⟩ letS = letN c := by
  have e : strIn ⟨#[c]⟩ letS = decide (c ∈ letS.cps.toList) := rfl
  rw [e, Bool.eq_iff_iff, decide_eq_true_eq]
  exact letN_iff.symm
theorem k_name (F : Fs) (hL : F.gv "LETTERS" = some (.str "abcdefghijklmnopqrstuvwxyz")) (hM : F.gv "LONGEST_NAME" = some (.int 8)) : Keeps F N_is_name b_is_name (.pu pfName) := by
  intro ds R h
  match ds, h with
  | [d], ⟨h1, h2⟩ =>
    simp? only [N_is_name, b_is_name, hL, hM]
    refine ⟨h1.isD, ?_⟩
    cases d with
    | str x =>
      have hl := h1.lenS
      have hz : sizeLine = 16777216 := sizeLine_eq
      simp? only [D.isTy, Bool.not_true]
      refine ⟨by omega, ?_⟩
      simp only [isNm, nameS] at h2
      by_cases q1 : 1 ≤ x.length
      · have q1' : (1 : Int) ≤ (x.length : Int) := by omega
        simp? only [q1, q1', decide_true, Bool.true_and] at h2 ⊢
        by_cases q2 : x.length ≤ 8
        · have q2' : (x.length : Int) ≤ 8 := by omega
          simp? only [q2, q2', decide_true, Bool.true_and, Bool.not_true] at h2 ⊢
          refine lc_map x.cps.toList _ (fun c => .bl (letN c)) (fun c hc acc Kc hz' hK => ?_) (by rw [Array.length_toList]; exact Nat.le_trans hl (by omega)) ?_
          · simp? only [lcStep]
            exact ⟨hz', by rw [← strIn_let c] at hK; exact hK⟩
          · simp? only []
            exact ⟨x.cps.toList.map letN, by rw [bl_map], by rw [List.all_map]; exact h2⟩
        · have q2' : ¬ (x.length : Int) ≤ 8 := by omega
          simp? only [q2, q2', decide_false, Bool.false_and, Bool.not_false] at h2 ⊢
          exact h2
      · have q1' : ¬ (1 : Int) ≤ (x.length : Int) := by omega
        simp? only [q1, q1', decide_false, Bool.false_and, Bool.not_false] at h2 ⊢
        exact h2
    | _ => exact h2
def pfAsc : List D → (Res → Prop) → Prop
  | [d], R => ∃ rs : List Str, (d = .lst (rs.map .str) ∨ d = .tup (rs.map .str)) ∧ rs.length ≤ 100000 ∧ R (.d (.bl (asc rs)))
  | _, _ => False
theorem cut_init {α : Type} (xs : List α) : cutD xs none (some (-1)) = xs.dropLast := by
  unfold cutD
  have e1 : HT.sIx xs.length 0 none = 0 := rfl
  have e2 : HT.sIx xs.length xs.length (some (-1)) = xs.length - 1 := by
    show (if (-1 : Int) < 0 then ((-1 : Int) + (xs.length : Int)).toNat else min (-1 : Int).toNat xs.length) = _
    rw [if_pos (by decide)]; omega
  rw [e1, e2, List.drop_zero, Nat.sub_zero, List.dropLast_eq_take]
theorem cut_tail {α : Type} (xs : List α) : cutD xs (some 1) none = xs.drop 1 := by
  unfold cutD
  have e1 : HT.sIx xs.length 0 (some 1) = min 1 xs.length := rfl
  have e2 : HT.sIx xs.length xs.length none = xs.length := rfl
  rw [e1, e2]
  cases xs with
  | nil => rfl
  | cons x xs =>
    have : min 1 (x :: xs).length = 1 := by simp
    rw [this, List.take_of_length_le (by simp)]
theorem zip_strs : ∀ xs ys : List Str, zipL (xs.map .str) (ys.map .str) = (xs.zip ys).map fun p => .tup [.str p.1, .str p.2]
  | [], _ => by simp [zipL]
  | _ :: _, [] => by simp [zipL]
  | x :: xs, y :: ys => by
    have := zip_strs xs ys
    simp only [zipL] at this ⊢
    simp only [List.map_cons, List.zipWith_cons_cons, List.zip_cons_cons, this]
theorem asc_zip' (rs : List Str) : ((rs.dropLast.zip (rs.drop 1)).map fun p => ltS p.1 p.2).all id = asc rs := by
  rw [← asc_zip rs, List.zip, List.map_zipWith]
theorem k_asc (F : Fs) : Keeps F N_are_ascending b_are_ascending (.pu pfAsc) := by
  intro ds R h
  have hz : sizeLine = 16777216 := sizeLine_eq
  match ds, h with
  | [d], ⟨rs, hd, hl, hR⟩ =>
    have e1 : (rs.map D.str).dropLast = rs.dropLast.map .str := (List.map_dropLast ..).symm
    have e2 : (rs.map D.str).drop 1 = (rs.drop 1).map .str := (List.map_drop ..).symm
    have e3 : (rs.dropLast.map D.str).length = ((rs.drop 1).map D.str).length := by simp
    have e4 : (rs.dropLast.zip (rs.drop 1)).length ≤ sizeLine := by rw [List.length_zip]; simp; omega
    rcases hd with rfl | rfl
    · simp? only [N_are_ascending, b_are_ascending, cut_init, cut_tail, e1, e2, zip_strs]
      refine ⟨_, _, rfl, _, rfl, _, rfl, e3, ?_⟩
      rw [zip_strs]
      refine lc_map _ _ (fun p => .bl (ltS p.1 p.2)) (fun p hp acc Kc hz' hK => ?_) e4 ?_
      · simp? only [lcStep]
        exact ⟨hz', hK⟩
      · simp? only []
        exact ⟨_, bl_map _ _, by rw [asc_zip']; exact hR⟩
    · simp? only [N_are_ascending, b_are_ascending, cut_init, cut_tail, e1, e2, zip_strs]
      refine ⟨_, _, rfl, _, rfl, _, rfl, e3, ?_⟩
      rw [zip_strs]
      refine lc_map _ _ (fun p => .bl (ltS p.1 p.2)) (fun p hp acc Kc hz' hK => ?_) e4 ?_
      · simp? only [lcStep]
        exact ⟨hz', hK⟩
      · simp? only []
        exact ⟨_, bl_map _ _, by rw [asc_zip']; exact hR⟩
theorem isRm_of {rs : List Str} {x : Str} : isRm rs (.str x) = decide (x ∈ rs) := rfl
def pfRoom : List D → (Res → Prop) → Prop
  | [.tup xs, d], R => ∃ rs : List Str, xs = rs.map .str ∧ d.isD = true ∧ R (.d (.bl (isRm rs d)))
  | _, _ => False
theorem k_room (F : Fs) : Keeps F N_is_room b_is_room (.pu pfRoom) := by
  intro ds R h
  match ds, h with
  | [.tup xs, d], ⟨rs, hx, h1, hR⟩ =>
    subst hx
    simp? only [N_is_room, b_is_room]
    refine ⟨h1, ?_⟩
    cases d with
    | str x =>
      simp? only [D.isTy]
      exact ⟨okIn_strs rfl rs, by rw [inD_strs rfl]; exact hR⟩
    | _ => exact hR
def pfSides : List D → (Res → Prop) → Prop
  | [.tup xs, a, b], R => ∃ rs : List Str, xs = rs.map .str ∧ a.isD = true ∧ b.isD = true ∧ R (.d (.bl (areSd rs a b)))
  | _, _ => False
theorem isRm_str {rs : List Str} {d : D} (h : isRm rs d = true) : ∃ x, d = .str x ∧ x ∈ rs := by
  cases d <;> simp [isRm] at h
  exact ⟨_, rfl, h⟩
theorem k_sides (F : Fs) (hF : F.fn "is_room" = some (.pu pfRoom)) : Keeps F N_are_sides b_are_sides (.pu pfSides) := by
  intro ds R h
  match ds, h with
  | [.tup xs, a, b], ⟨rs, hx, h1, h2, hR⟩ =>
    subst hx
    simp? only [N_are_sides, b_are_sides, hF, pfRoom]
    refine ⟨rs, rfl, h1, ?_⟩
    unfold areSd at hR
    cases ha : isRm rs a with
    | false =>
      simp? only [ha, Bool.false_and, Bool.not_false] at hR ⊢
      exact hR
    | true =>
      simp? only [ha, Bool.true_and, Bool.not_true] at hR ⊢
      cases hb : b.isNon with
      | true =>
        simp? only [hb, Bool.true_or] at hR ⊢
        exact hR
      | false =>
        simp? only [hb, Bool.false_or] at hR ⊢
        refine ⟨rs, rfl, h2, ?_⟩
        cases hc : isRm rs b with
        | false =>
          simp? only [hc, Bool.false_and] at hR ⊢
          exact hR
        | true =>
          obtain ⟨x, rfl, _⟩ := isRm_str ha
          obtain ⟨y, rfl, _⟩ := isRm_str hc
          simp? only [hc, ltD, Bool.true_and] at hR ⊢
          exact hR
theorem strs_of {xs : List D} (h : ∀ d ∈ xs, isNm d = true) : ∃ rs, xs = rs.map D.str ∧ strsD xs = some rs ∧ ∀ x ∈ rs, nameS x = true := by
  induction xs with
  | nil => exact ⟨[], rfl, rfl, by simp⟩
  | cons d ds ih =>
    obtain ⟨rs, e1, e2, e3⟩ := ih fun x hx => h x (List.mem_cons_of_mem _ hx)
    have hd := h d List.mem_cons_self
    cases d <;> simp [isNm] at hd
    rename_i x
    refine ⟨x :: rs, by rw [e1]; rfl, by simp [strsD, e2], fun y hy => ?_⟩
    rcases List.mem_cons.mp hy with rfl | hy
    · exact hd
    · exact e3 y hy
theorem filter_empty {α : Type} (xs : List α) (f : α → Bool) : (xs.filter fun c => !f c).isEmpty = xs.all f := by
  induction xs with
  | nil => rfl
  | cons x xs ih =>
    cases e : f x with
    | true => simp [e, ih]
    | false => simp [e]
theorem k_lname (F : Fs) : Keeps F N_law_is_name b_law_is_name (.pu pfName) := by
  intro ds R h
  match ds, h with
  | [d], ⟨h1, h2⟩ =>
    simp? only [N_law_is_name, b_law_is_name]
    refine ⟨h1.isD, ?_⟩
    cases d with
    | str x =>
      have hl := h1.lenS
      have hz : sizeLine = 16777216 := sizeLine_eq
      simp? only [D.isTy, Bool.not_true]
      refine ⟨by omega, ?_⟩
      simp only [isNm, nameS] at h2
      by_cases q1 : 1 ≤ x.length
      · have q1' : ¬ (x.length : Int) = 0 := by omega
        simp? only [q1, q1', decide_true, decide_false, Bool.true_and] at h2 ⊢
        by_cases q2 : x.length ≤ 8
        · have q2' : ¬ 8 < (x.length : Int) := by omega
          simp? only [q2, q2', decide_true, decide_false, Bool.true_and, Bool.not_true] at h2 ⊢
          refine ⟨by omega, ?_⟩
          refine lc_filter x.cps.toList _ (fun c => .str ⟨#[c]⟩) (fun c => !letN c) (fun c hc acc Kc hz' hK => ?_) (by rw [Array.length_toList]; exact Nat.le_trans hl (by omega)) ?_
          · rw [← strIn_let c] at hK
            simp? only [lcStep]
            cases e : strIn ⟨#[c]⟩ letS with
            | true =>
              have e' : strIn ⟨#[c]⟩ (Str.ofString "abcdefghijklmnopqrstuvwxyz") = true := e
              simp? only [e, e', Bool.true_xor, Bool.not_true] at hK ⊢
              exact hK
            | false =>
              have e' : strIn ⟨#[c]⟩ (Str.ofString "abcdefghijklmnopqrstuvwxyz") = false := e
              simp? only [e, e', Bool.true_xor, Bool.not_false] at hK ⊢
              exact ⟨hz', hK⟩
          · simp? only [zeq_g]
            refine ⟨okEq_nilL (isDL_of fun d hd => ?_), ?_⟩
            · obtain ⟨c, _, rfl⟩ := List.mem_map.mp hd
              rfl
            · rw [eq_nilL, List.isEmpty_map, filter_empty]
              exact h2
        · have q2' : 8 < (x.length : Int) := by omega
          simp? only [q2, q2', decide_true, decide_false, Bool.false_and, Bool.not_false] at h2 ⊢
          exact ⟨by omega, h2⟩
      · have q1' : (x.length : Int) = 0 := by omega
        simp? only [q1, q1', decide_true, decide_false, Bool.false_and, Bool.not_false] at h2 ⊢
        exact h2
    | _ => exact h2
set_option maxRecDepth 100000
set_option maxHeartbeats 4000000
def HsD (h : D) (rs : List Str) (ds : List Dr) : Prop := h = hsD rs ds ∧ House rs ds ∧ rs.length ≤ 1000 ∧ ds.length ≤ 1000
def pfCount : List D → (Res → Prop) → Prop
  | [d], R => d.isD = true ∧ R (.d (.bl (isCnt d)))
  | _, _ => False
theorem k_count (F : Fs) : Keeps F N_is_count b_is_count (.pu pfCount) := by
  intro ds R h
  match ds, h with
  | [d], ⟨h1, hR⟩ =>
    simp? only [N_is_count, b_is_count]
    refine ⟨h1, ?_⟩
    cases d with
    | int i =>
      simp? only [D.isTy, Bool.not_false]
      exact ⟨rfl, hR⟩
    | bl b =>
      simp? only [D.isTy, Bool.not_true]
      exact ⟨rfl, hR⟩
    | _ => exact hR
def isMst : D → Bool
  | .non => true
  | d => isCnt d
def pfMost : List D → (Res → Prop) → Prop
  | [d], R => d.isD = true ∧ R (.d (.bl (isMst d)))
  | _, _ => False
theorem k_most (F : Fs) (hC : F.fn "is_count" = some (.pu pfCount)) : Keeps F N_is_most b_is_most (.pu pfMost) := by
  intro ds R h
  match ds, h with
  | [d], ⟨h1, hR⟩ =>
    simp? only [N_is_most, b_is_most, hC, pfCount]
    cases d with
    | cst w => cases h1
    | non =>
      simp? only [D.isNon]
      exact hR
    | _ =>
      simp? only [D.isNon]
      exact ⟨h1, hR⟩
def pfLess : List D → (Res → Prop) → Prop
  | [.non, _], R => R (.d (.bl false))
  | [.int _, .non], R => R (.d (.bl true))
  | [.int i, .int j], R => R (.d (.bl (decide (i < j))))
  | _, _ => False
theorem k_less (F : Fs) : Keeps F N_is_less b_is_less (.pu pfLess) := by
  intro ds R h
  match ds, h with
  | [.non, d], hR =>
    simp? only [N_is_less, b_is_less, D.isNon, wtCmp]
    exact hR
  | [.int i, .non], hR =>
    simp? only [N_is_less, b_is_less, D.isNon, wtCmp]
    exact hR
  | [.int i, .int j], hR =>
    simp? only [N_is_less, b_is_less, D.isNon, wtCmp]
    exact hR
def pfBnds : List D → (Res → Prop) → Prop
  | [a, b], R => a.isD = true ∧ b.isD = true ∧ R (.d (.bl (bnds a b)))
  | _, _ => False
theorem k_bnds (F : Fs) (hC : F.fn "is_count" = some (.pu pfCount)) (hM : F.fn "is_most" = some (.pu pfMost)) (hL : F.fn "is_less" = some (.pu pfLess)) : Keeps F N_are_bounds b_are_bounds (.pu pfBnds) := by
  intro ds R h
  match ds, h with
  | [a, b], ⟨h1, h2, hR⟩ =>
    simp? only [N_are_bounds, b_are_bounds, hC, hM, hL, pfCount, pfMost]
    refine ⟨h1, ?_⟩
    cases a with
    | int i =>
      simp only [isCnt]
      by_cases h0 : 0 ≤ i
      · simp? only [decide_eq_true h0]
        refine ⟨h2, ?_⟩
        cases b with
        | non =>
          simp? only [isMst, pfLess, bnds, decide_eq_true h0, Bool.not_false] at hR ⊢
          exact hR
        | int j =>
          simp only [isMst, isCnt, bnds, decide_eq_true h0, Bool.true_and] at hR ⊢
          by_cases hj : 0 ≤ j
          · simp? only [decide_eq_true hj, pfLess]
            have e : (!decide (j < i)) = decide (i ≤ j) := by
              rw [Bool.eq_iff_iff]; simp
            rw [e]; exact hR
          · simp? only [decide_eq_false hj]
            have e : decide (i ≤ j) = false := decide_eq_false (by omega)
            rw [e] at hR; exact hR
        | cst w => cases h2
        | _ => exact hR
      · simp? only [decide_eq_false h0]
        have e : bnds (.int i) b = false := by cases b <;> simp [bnds, h0]
        rw [e] at hR; exact hR
    | cst w => cases h1
    | _ => exact hR
/-- the doors by their names -/
def pfSidesD : List D → (Res → Prop) → Prop
  | [h], R => ∃ rs ds, HsD h rs ds ∧ R (.m (drKs ds) (drVs ds))
  | _, _ => False
theorem k_dsides (F : Fs) : Keeps F N_door_sides b_door_sides (.pu pfSidesD) := by
  intro ds R h
  have sz : sizeLine = 16777216 := sizeLine_eq
  match ds, h with
  | [h], ⟨rs, ds, hh0, hR⟩ =>
    obtain ⟨e, hh, _, hl⟩ := hh0
    subst e
    simp? only [N_door_sides, b_door_sides, hsD]
    refine dc_map ds drD (fun d => .inr d.1) (fun d => .tup [.str d.2.1, sideD d.2.2]) (drKs_nodup hh.dasc) (fun d hd ks vs Kc hz hK => ?_) (by omega) ?_
    · simp? only [dcStep, drD]
      exact ⟨by omega, _, rfl, hz, hK⟩
    · simp? only []
      exact hR
theorem k_lsides (F : Fs) : Keeps F N_law_sides b_law_sides (.pu pfSidesD) := by
  intro ds R h
  have sz : sizeLine = 16777216 := sizeLine_eq
  match ds, h with
  | [h], ⟨rs, ds, hh0, hR⟩ =>
    obtain ⟨e, hh, _, hl⟩ := hh0
    subst e
    simp? only [N_law_sides, b_law_sides, hsD]
    refine lc_map ds drD (fun d => .tup [.str d.1, .tup [.str d.2.1, sideD d.2.2]]) (fun d hd acc Kc hz hK => ?_) (by omega) ?_
    · have e1 : cutD [D.str d.1, D.str d.2.1, sideD d.2.2] (some 1) none = [D.str d.2.1, sideD d.2.2] := rfl
      simp? only [lcStep, drD, e1]
      exact ⟨by omega, hz, hK⟩
    · have hp : ∀ ds : List Dr, pairsKD (ds.map fun d => D.tup [.str d.1, .tup [.str d.2.1, sideD d.2.2]]) = some (ds.map fun d => ((.inr d.1 : Key), D.tup [.str d.2.1, sideD d.2.2])) := by
        intro ds
        induction ds with
        | nil => rfl
        | cons d ds ih => simp only [List.map_cons, pairsKD, pairKD, Pz.keyOf, Option.map_some, ih]
      have hn : (([] : List Key) ++ (ds.map fun d : Dr => ((.inr d.1 : Key), D.tup [.str d.2.1, sideD d.2.2])).map fun p : Key × D => p.1).Nodup := by
        rw [List.nil_append, List.map_map]
        exact drKs_nodup hh.dasc
      simp? only [hp]
      rw [mrgD_new hn]
      simp only [List.nil_append, List.map_map]
      exact hR
/-- one of these texts -/
def pfOneOf : List D → (Res → Prop) → Prop
  | [d, .lst xs], R => ∃ rs : List Str, xs = rs.map .str ∧ d.isD = true ∧ R (.d (.bl (isRm rs d)))
  | [d, .tup xs], R => ∃ rs : List Str, xs = rs.map .str ∧ d.isD = true ∧ R (.d (.bl (isRm rs d)))
  | [d, .dic ks _], R => ∃ ds : List Dr, ks = drKs ds ∧ d.isD = true ∧ R (.d (.bl (isOwn ds d)))
  | _, _ => False
theorem k_oneof (F : Fs) : Keeps F N_law_is_one_of b_law_is_one_of (.pu pfOneOf) := by
  intro ds R h
  match ds, h with
  | [d, .lst xs], ⟨rs, hx, h1, hR⟩ =>
    subst hx
    simp? only [N_law_is_one_of, b_law_is_one_of]
    refine ⟨h1, ?_⟩
    cases d with
    | str x =>
      simp? only [D.isTy]
      exact ⟨okIn_strs rfl rs, by rw [inD_strs rfl]; exact hR⟩
    | _ => exact hR
  | [d, .tup xs], ⟨rs, hx, h1, hR⟩ =>
    subst hx
    simp? only [N_law_is_one_of, b_law_is_one_of]
    refine ⟨h1, ?_⟩
    cases d with
    | str x =>
      simp? only [D.isTy]
      exact ⟨okIn_strs rfl rs, by rw [inD_strs rfl]; exact hR⟩
    | _ => exact hR
  | [d, .dic ks xs], ⟨ds, hx, h1, hR⟩ =>
    subst hx
    simp? only [N_law_is_one_of, b_law_is_one_of]
    refine ⟨h1, ?_⟩
    cases d with
    | str x =>
      simp? only [D.isTy]
      exact ⟨_, rfl, by rw [hasK_drs]; exact hR⟩
    | _ => exact hR
def pfOwn : List D → (Res → Prop) → Prop
  | [h, d], R => ∃ rs ds, HsD h rs ds ∧ d.isD = true ∧ R (.d (.bl (isOwn ds d)))
  | _, _ => False
theorem k_own (F : Fs) (hS : F.fn "door_sides" = some (.pu pfSidesD)) : Keeps F N_is_own_door b_is_own_door (.pu pfOwn) := by
  intro ds R h
  match ds, h with
  | [h, d], ⟨rs, ds, hh, h1, hR⟩ =>
    simp? only [N_is_own_door, b_is_own_door, hS, pfSidesD]
    refine ⟨h1, ?_⟩
    cases d with
    | str x =>
      simp? only [D.isTy]
      exact ⟨rs, ds, hh, _, rfl, by rw [hasK_drs]; exact hR⟩
    | _ => exact hR
theorem isPass_off {ds : List Dr} {a b : D} (h : isOwn ds a = false) : isPass ds a b = false := by
  cases a with
  | str x =>
    unfold isPass
    cases e : sidesAt ds x with
    | none => simp only [e]
    | some s =>
      exfalso
      unfold sidesAt at e
      cases q : ds.find? fun d => decide (d.1 = x) with
      | none => rw [q] at e; cases e
      | some d =>
        have h1 := List.find?_some q
        have h2 := List.mem_of_find?_eq_some q
        have : isOwn ds (.str x) = true := decide_eq_true (List.mem_map.mpr ⟨d, h2, of_decide_eq_true h1⟩)
        rw [this] at h; cases h
  | _ => rfl
def pfPass : List D → (Res → Prop) → Prop
  | [h, a, b], R => ∃ rs ds, HsD h rs ds ∧ a.isD = true ∧ b.isD = true ∧ R (.d (.bl (isPass ds a b)))
  | _, _ => False
theorem isOwn_str {ds : List Dr} {a : D} (h : isOwn ds a = true) : ∃ x s, a = .str x ∧ sidesAt ds x = some s := by
  cases a with
  | str x => obtain ⟨s, e⟩ := sidesAt_own h; exact ⟨x, s, rfl, e⟩
  | _ => cases h
theorem k_pass (F : Fs) (hO : F.fn "is_own_door" = some (.pu pfOwn)) (hS : F.fn "door_sides" = some (.pu pfSidesD)) : Keeps F N_is_passage b_is_passage (.pu pfPass) := by
  intro ds R h
  match ds, h with
  | [h, a, b], ⟨rs, ds, hh, h1, h2, hR⟩ =>
    simp? only [N_is_passage, b_is_passage, hO, hS, pfOwn, pfSidesD]
    refine ⟨rs, ds, hh, h1, ?_⟩
    cases ha : isOwn ds a with
    | false =>
      rw [isPass_off ha] at hR
      simp? only [Bool.not_false]
      exact hR
    | true =>
      obtain ⟨x, s, rfl, hs⟩ := isOwn_str ha
      have hp : isPass ds (.str x) b = isSide s b := by simp only [isPass, hs]
      rw [hp] at hR
      have hl : lookD (drKs ds) (drVs ds) (.inr x) = some (.tup [.str s.1, sideD s.2]) := by rw [lookD_drs, hs]; rfl
      have fin : ∀ {Q : Res → Prop}, Q (.d (.bl (isSide s b))) → okIn b [.str s.1, sideD s.2] = true ∧ Q (.d (.bl (inD b [.str s.1, sideD s.2]))) := fun q => ⟨okIn_sd h2 _ _, by rw [inD_sd h2]; exact q⟩
      simp? only [Bool.not_true]
      cases b with
      | cst w => cases h2
      | str y =>
        simp? only [D.isNon, D.isTy, Bool.not_false, Bool.not_true]
        refine ⟨rfl, rs, ds, hh, _, rfl, _, hl, ?_⟩
        simp? only []
        exact fin hR
      | non =>
        simp? only [D.isNon, D.isTy, Bool.not_false, Bool.not_true]
        refine ⟨rs, ds, hh, _, rfl, _, hl, ?_⟩
        simp? only []
        exact fin hR
      | _ =>
        simp? only [D.isNon, D.isTy, Bool.not_false, Bool.not_true]
        exact ⟨h2, hR⟩
set_option maxRecDepth 100000
set_option maxHeartbeats 4000000
theorem and_go {a b : Bool} : (a && b) = (if a then b else false) := by cases a <;> rfl
def pfRcount : List D → (Res → Prop) → Prop
  | [h, a, b, c], R => ∃ rs ds, HsD h rs ds ∧ a.isD = true ∧ b.isD = true ∧ c.isD = true ∧ R (.d (.bl (isRm rs a && bnds b c)))
  | _, _ => False
theorem k_rcount (F : Fs) (hM : F.fn "is_room" = some (.pu pfRoom)) (hB : F.fn "are_bounds" = some (.pu pfBnds)) : Keeps F N_is_room_count b_is_room_count (.pu pfRcount) := by
  intro ds R h
  match ds, h with
  | [h, a, b, c], ⟨rs, ds, ⟨e, hh, _, _⟩, h1, h2, h3, hR⟩ =>
    subst e
    simp? only [N_is_room_count, b_is_room_count, hsD, hM, hB, pfRoom, pfBnds]
    refine ⟨rs, rfl, h1, ?_⟩
    cases ha : isRm rs a with
    | false =>
      simp? only [ha, Bool.false_and] at hR ⊢
      exact hR
    | true =>
      simp? only [ha, Bool.true_and] at hR ⊢
      exact ⟨h2, h3, hR⟩
def pfWcount : List D → (Res → Prop) → Prop
  | [h, b, c], R => b.isD = true ∧ c.isD = true ∧ R (.d (.bl (bnds b c)))
  | _, _ => False
theorem k_wcount (F : Fs) (hB : F.fn "are_bounds" = some (.pu pfBnds)) : Keeps F N_is_whole_count b_is_whole_count (.pu pfWcount) := by
  intro ds R h
  match ds, h with
  | [h, b, c], ⟨h2, h3, hR⟩ =>
    simp? only [N_is_whole_count, b_is_whole_count, hB, pfBnds]
    exact ⟨h2, h3, hR⟩
theorem filt_two (rs : List Str) (a b : Str) : (rs.filter fun r => !isSide (a, some b) (.str r)) = rs.filter fun r => !(decide (r = a) || decide (r = b)) := by
  congr 1
  funext r
  simp [isSide, eq_comm]
def pfJoin : List D → (Res → Prop) → Prop
  | [h, a, b, c], R => ∃ rs ds, HsD h rs ds ∧ a.isD = true ∧ b.isD = true ∧ Av c ∧ R (.d (.bl (joinL rs a b c)))
  | _, _ => False
theorem join_off1 {rs : List Str} {a b c : D} (h : isRm rs a = false) : joinL rs a b c = false := by
  cases a <;> cases b <;> first | rfl | (simp only [isRm] at h; simp [joinL, h])
theorem join_off2 {rs : List Str} {a b c : D} (h : isRm rs b = false) : joinL rs a b c = false := by
  cases a <;> cases b <;> first | rfl | (simp only [isRm] at h; simp [joinL, h])
theorem k_join (F : Fs) (hM : F.fn "is_room" = some (.pu pfRoom)) (hN : F.fn "is_name" = some (.pu pfName)) : Keeps F N_is_joining b_is_joining (.pu pfJoin) := by
  intro ds R h
  have sz : sizeLine = 16777216 := sizeLine_eq
  match ds, h with
  | [h, a, b, c], ⟨rs, ds, ⟨e, hh, hrl, _⟩, h1, h2, h3, hR⟩ =>
    subst e
    simp? only [N_is_joining, b_is_joining, hsD, hM, hN, pfRoom, pfName]
    refine ⟨rs, rfl, h1, ?_⟩
    cases ha : isRm rs a with
    | false =>
      rw [join_off1 ha] at hR
      simp? only [Bool.not_false]
      exact hR
    | true =>
      simp? only [Bool.not_true]
      refine ⟨rs, rfl, h2, ?_⟩
      cases hb : isRm rs b with
      | false =>
        rw [join_off2 hb] at hR
        simp? only [Bool.not_false]
        exact hR
      | true =>
        obtain ⟨x, rfl, hx⟩ := isRm_str ha
        obtain ⟨y, rfl, hy⟩ := isRm_str hb
        simp only [joinL, decide_eq_true hx, decide_eq_true hy, Bool.true_and] at hR
        simp? only [Bool.not_true]
        cases he : decide (x = y) with
        | true =>
          simp? only [he, Bool.not_true, Bool.false_and] at hR ⊢
          exact hR
        | false =>
          simp? only [he, Bool.not_false, Bool.true_and] at hR ⊢
          refine ⟨h3, ?_⟩
          cases hn : isNm c with
          | false =>
            simp? only [hn, Bool.false_and] at hR ⊢
            exact hR
          | true =>
            simp? only [hn, Bool.true_and] at hR ⊢
            refine lc_filter rs .str .str (fun r => !isSide (x, some y) (.str r)) (fun r hr acc Kc hz hK => ?_) (by omega) ?_
            · simp? only [lcStep, wtCmp, inD_two (x := .str r) rfl]
              refine ⟨by omega, okIn_two rfl x y, ?_⟩
              cases hs : isSide (x, some y) (.str r) with
              | true => simp only [hs, Bool.not_true, List.getElem?_cons_zero, List.getElem?_cons_succ, List.set_cons_zero, List.set_cons_succ, List.dropLast_cons_cons, List.dropLast_singleton, List.getLast?_cons_cons, List.getLast?_singleton, List.cons_append, List.nil_append, List.append_nil, List.reverse_cons, List.reverse_nil, Option.getD_some, Option.getD_none, Option.some.injEq, Option.bind_some, exists_eq_left', exists_eq_left, exists_eq_right, exists_and_left, true_and, and_true, if_true, if_false, reduceCtorEq, reduceIte, Bool.false_eq_true, Bool.false_xor, Bool.true_xor, List.replicate_succ, List.replicate_zero, List.length_cons, List.length_nil, Nat.zero_add, Nat.reduceAdd, Nat.reduceSub, O.d.injEq, D.int.injEq, Res.d.injEq, B.l.injEq, B.d.injEq, D.bl.injEq, D.str.injEq, D.lst.injEq, D.tup.injEq, Nat.zero_le] at hK ⊢; exact hK
              | false => simp only [hs, Bool.not_false, List.getElem?_cons_zero, List.getElem?_cons_succ, List.set_cons_zero, List.set_cons_succ, List.dropLast_cons_cons, List.dropLast_singleton, List.getLast?_cons_cons, List.getLast?_singleton, List.cons_append, List.nil_append, List.append_nil, List.reverse_cons, List.reverse_nil, Option.getD_some, Option.getD_none, Option.some.injEq, Option.bind_some, exists_eq_left', exists_eq_left, exists_eq_right, exists_and_left, true_and, and_true, if_true, if_false, reduceCtorEq, reduceIte, Bool.false_eq_true, Bool.false_xor, Bool.true_xor, List.replicate_succ, List.replicate_zero, List.length_cons, List.length_nil, Nat.zero_add, Nat.reduceAdd, Nat.reduceSub, O.d.injEq, D.int.injEq, Res.d.injEq, B.l.injEq, B.d.injEq, D.bl.injEq, D.str.injEq, D.lst.injEq, D.tup.injEq, Nat.zero_le] at hK ⊢; exact ⟨hz, hK⟩
            · simp? only []
              rw [filt_two]
              exact ⟨okIn_strs h3.isD _, by rw [inD_strs h3.isD]; exact hR⟩
def pfDoorsOf : List D → (Res → Prop) → Prop
  | [h, .str r], R => ∃ rs ds, HsD h rs ds ∧ R (.l ((ownOf ds r).map .str))
  | _, _ => False
theorem side_has (r : Str) (d : Dr) : isSide d.2 (.str r) = hasSd r d := rfl
theorem k_doorsOf (F : Fs) : Keeps F N_doors_of b_doors_of (.pu pfDoorsOf) := by
  intro ds R h
  have sz : sizeLine = 16777216 := sizeLine_eq
  match ds, h with
  | [h, .str r], ⟨rs, ds, ⟨e, hh, _, hl⟩, hR⟩ =>
    subst e
    simp? only [N_doors_of, b_doors_of, hsD]
    refine lc_filter ds drD (fun d => .str d.1) (hasSd r) (fun d hd acc Kc hz hK => ?_) (by omega) ?_
    · simp? only [lcStep, wtCmp, drD, inD_sd (x := .str r) rfl]
      refine ⟨by omega, okIn_sd rfl _ _, ?_⟩
      rw [side_has]
      cases hs : hasSd r d with
      | true => simp only [hs, List.getElem?_cons_zero, List.getElem?_cons_succ, List.set_cons_zero, List.set_cons_succ, List.dropLast_cons_cons, List.dropLast_singleton, List.getLast?_cons_cons, List.getLast?_singleton, List.cons_append, List.nil_append, List.append_nil, List.reverse_cons, List.reverse_nil, Option.getD_some, Option.getD_none, Option.some.injEq, Option.bind_some, exists_eq_left', exists_eq_left, exists_eq_right, exists_and_left, true_and, and_true, if_true, if_false, reduceCtorEq, reduceIte, Bool.false_eq_true, Bool.false_xor, Bool.true_xor, List.replicate_succ, List.replicate_zero, List.length_cons, List.length_nil, Nat.zero_add, Nat.reduceAdd, Nat.reduceSub, O.d.injEq, D.int.injEq, Res.d.injEq, B.l.injEq, B.d.injEq, D.bl.injEq, D.str.injEq, D.lst.injEq, D.tup.injEq, Nat.zero_le] at hK ⊢; exact ⟨hz, hK⟩
      | false => simp only [hs, List.getElem?_cons_zero, List.getElem?_cons_succ, List.set_cons_zero, List.set_cons_succ, List.dropLast_cons_cons, List.dropLast_singleton, List.getLast?_cons_cons, List.getLast?_singleton, List.cons_append, List.nil_append, List.append_nil, List.reverse_cons, List.reverse_nil, Option.getD_some, Option.getD_none, Option.some.injEq, Option.bind_some, exists_eq_left', exists_eq_left, exists_eq_right, exists_and_left, true_and, and_true, if_true, if_false, reduceCtorEq, reduceIte, Bool.false_eq_true, Bool.false_xor, Bool.true_xor, List.replicate_succ, List.replicate_zero, List.length_cons, List.length_nil, Nat.zero_add, Nat.reduceAdd, Nat.reduceSub, O.d.injEq, D.int.injEq, Res.d.injEq, B.l.injEq, B.d.injEq, D.bl.injEq, D.str.injEq, D.lst.injEq, D.tup.injEq, Nat.zero_le] at hK ⊢; exact hK
    · simp? only []
      have e : (ds.filter (hasSd r)).map (fun d => D.str d.1) = (ownOf ds r).map .str := by simp [ownOf]
      rw [e]
      exact hR
set_option maxRecDepth 100000
set_option maxHeartbeats 4000000
def pfPick : List D → Nat → (Res → Nat → Prop) → Prop
  | [.lst xs], k, R => (xs ≠ [] ∧ xs.length < 1073741824 ∧ k < 1099511627776) ∧ ∀ x ∈ xs, R (.d x) (k + 1)
  | _, _, _ => False
theorem k_pick (F : Fs) (hF : F.fn "_law_draw" = some (.dk pfDraw)) : Keeps F N_law_pick b_law_pick (.dk pfPick) := by
  intro p c ds k R h
  match ds, h with
  | [.lst xs], ⟨⟨h1, h2, h3⟩, hR⟩ =>
    have hpos : 0 < xs.length := by
      cases xs with
      | nil => exact absurd rfl h1
      | cons _ _ => simp
    simp? only [N_law_pick, b_law_pick, hF, pfDraw]
    refine ⟨⟨by omega, by omega, h3⟩, fun i h0 h4 => ?_⟩
    obtain ⟨x, e1, e2, _⟩ := atI_ok h0 h4
    exact ⟨x, e1, hR x e2⟩
def pfNames : List D → Nat → (Res → Nat → Prop) → Prop
  | [.int n], k, R => (0 ≤ n ∧ n ≤ 20 ∧ k + 2 < 1099511627776) ∧ ∀ w < 4, ∀ f < 26, R (.l ((nameList w f n.toNat).map .str)) (k + 2)
  | _, _, _ => False
theorem let_at {j : Int} (h0 : 0 ≤ j) (h1 : j < 26) : atI (Str.ofString "abcdefghijklmnopqrstuvwxyz").cps.toList j = some (97 + j.toNat) := by
  have e : (Str.ofString "abcdefghijklmnopqrstuvwxyz").cps.toList = (List.range 26).map (97 + ·) := letS_eq
  rw [e]
  unfold atI ixN
  rw [if_pos h0, if_pos (by simp; omega)]
  have hj : j.toNat < 26 := by omega
  simp [hj]
theorem word_at {j : Int} (h0 : 0 ≤ j) (h1 : j < 20) : atI (words20.map D.str) j = some (.str ((words20[j.toNat]?).getD (Str.ofString ""))) := by
  have hl : words20.length = 20 := by decide +kernel
  unfold atI ixN
  rw [if_pos h0, if_pos (by rw [List.length_map, hl]; omega)]
  have hj : j.toNat < words20.length := by omega
  simp [hj]
theorem begun_at {k : Nat} (h : k < 8) : cutS (Str.ofString "corridor") none (some (1 + (0 + (k : Int)))) = ⟨((Str.ofString "corridor").cps.toList.take (1 + k)).toArray⟩ := by
  have hl : (Str.ofString "corridor").length = 8 := by decide +kernel
  unfold cutS
  have e1 : HT.sIx (Str.ofString "corridor").length 0 none = 0 := rfl
  have e2 : HT.sIx (Str.ofString "corridor").length (Str.ofString "corridor").length (some (1 + (0 + (k : Int)))) = 1 + k := by
    show (if (1 + (0 + (k : Int))) < 0 then ((1 + (0 + (k : Int))) + (((Str.ofString "corridor").length : Nat) : Int)).toNat else min (1 + (0 + (k : Int))).toNat (Str.ofString "corridor").length) = _
    rw [if_neg (by omega), hl]; omega
  rw [e1, e2, List.drop_zero, Nat.sub_zero]
theorem k_names (F : Fs) (hF : F.fn "_law_draw" = some (.dk pfDraw)) : Keeps F N_law_names b_law_names (.dk pfNames) := by
  intro p c ds k R h
  have sz : sizeLine = 16777216 := sizeLine_eq
  match ds, h with
  | [.int n], ⟨⟨h1, h2, h3⟩, hR⟩ =>
    simp? only [N_law_names, b_law_names, hF, pfDraw]
    refine ⟨⟨by decide, by decide, by omega⟩, fun w w0 w1 => ⟨⟨by decide, by decide, by omega⟩, fun f f0 f1 => ?_⟩⟩
    have ew : Txt.split "all any as ask beam door from joined new open outside parted room same shut table to went with wall" " " = words20 := by decide +kernel
    rw [ew]
    refine ⟨⟨by decide +kernel, by decide +kernel⟩, ⟨by omega, by omega⟩, ?_⟩
    obtain ⟨w', rfl⟩ := Int.eq_ofNat_of_zero_le w0
    obtain ⟨f', rfl⟩ := Int.eq_ofNat_of_zero_le f0
    have hll : (Str.ofString "abcdefghijklmnopqrstuvwxyz").length ≤ sizeLine := by decide +kernel
    refine for_inv (fun i ρ => ∃ (a b d : Option D), ρ = ⟨[some (.d (.cst (.ref p))), some (.d (.int n)), some (.d (.int w')), some (.d (.int f')), some (.d (.lst (words20.map .str))), some (.l ((nameList w' f' i).map .str)), a.map .d, b.map .d, d.map .d], k + 2⟩)
      ⟨none, none, none, rfl⟩ (fun i x ρ Kn hx ⟨a, b, d, e⟩ hK => ?_) fun ρ ⟨a, b, d, e⟩ => ?_
    · subst e
      obtain ⟨hi, rfl⟩ := rngL_get hx
      have hi20 : i < 20 := by omega
      have m26 : ∀ j : Int, 0 ≤ j % 26 ∧ j % 26 < 26 := fun j => ⟨Int.emod_nonneg _ (by decide), Int.emod_lt_of_pos _ (by decide)⟩
      have m20 : ∀ j : Int, 0 ≤ j % 20 ∧ j % 20 < 20 := fun j => ⟨Int.emod_nonneg _ (by decide), Int.emod_lt_of_pos _ (by decide)⟩
      have e1 : (((f' : Int) + 7 * (0 + (i : Int))) % 26).toNat = (f' + 7 * i) % 26 := by omega
      have e2 : (((f' : Int) + 3 * (0 + (i : Int))) % 20).toNat = (f' + 3 * i) % 20 := by omega
      have fin : ∀ (z : D) (x7 x8 : D), z = .str (nameAt w' f' i) → Kn ⟨[some (.d (.cst (.ref p))), some (.d (.int n)), some (.d (.int w')), some (.d (.int f')), some (.d (.lst (words20.map .str))), some (.l ((nameList w' f' i).map .str ++ [z])), some (.d (.int (0 + i))), some (.d x7), some (.d x8)], k + 2⟩ := fun z x7 x8 hz => by
        refine hK _ ⟨some (.int (0 + i)), some x7, some x8, ?_⟩
        rw [hz]
        simp only [nameList, List.range_succ, List.map_append, List.map_cons, List.map_nil, Option.map_some]
      have hx1 : atI (Str.ofString "abcdefghijklmnopqrstuvwxyz").cps.toList (((f' : Int) + 7 * (0 + (i : Int))) % 26) = some (97 + (f' + 7 * i) % 26) := by rw [let_at (m26 _).1 (m26 _).2, e1]
      have hx2 : atI (words20.map D.str) (((f' : Int) + 3 * (0 + (i : Int))) % 20) = some (.str ((words20[(f' + 3 * i) % 20]?).getD (Str.ofString ""))) := by rw [word_at (m20 _).1 (m20 _).2, e2]
      have hl7 : (Str.ofString "passage").length = 7 := by decide +kernel
      have hl4 : (Str.ofString "hall").length = 4 := by decide +kernel
      have hl8 : (Str.ofString "corridor").length = 8 := by decide +kernel
      have hl1 : ({ cps := #[97 + (f' + 7 * i) % 26] } : Str).length = 1 := rfl
      have hln : ((nameList w' f' i).map D.str).length < sizeLine := by rw [List.length_map, nameList, List.length_map, List.length_range]; omega
      have pk : ∀ z8 : Str, z8 = (if i < 8 then ⟨((Str.ofString "corridor").cps.toList.take (1 + i)).toArray⟩ else Str.ofString "hall" ++ chA ((f' + 7 * i) % 26)) →
          atI [D.str { cps := #[97 + (f' + 7 * i) % 26] }, .str ((words20[(f' + 3 * i) % 20]?).getD (Str.ofString "")), D.str (Str.ofString "passage" ++ { cps := #[97 + (f' + 7 * i) % 26] }), D.str z8] (w' : Int) = some (.str (nameAt w' f' i)) := fun z8 h8 => by
        rw [h8]
        match w', w1 with
        | 0, _ => rfl
        | 1, _ => rfl
        | 2, _ => rfl
        | 3, _ => rfl
        | w + 4, w1 => exact absurd w1 (by omega)
      simp? only [hx1, hx2]
      refine ⟨.inl ⟨by decide, by decide⟩, by decide, hll, ?_⟩
      by_cases h8 : i < 8
      · rw [if_pos (by simp; omega)]
        refine ⟨by omega, ⟨_, rfl⟩, .inl ⟨by decide, by decide⟩, by decide, by omega, by omega, _, pk _ ?_, hln, fin _ _ _ rfl⟩
        rw [if_pos h8]; exact begun_at h8
      · rw [if_neg (by simp; omega)]
        refine ⟨by omega, ⟨_, rfl⟩, .inl ⟨by decide, by decide⟩, by decide, by omega, by omega, _, pk _ ?_, hln, fin _ _ _ rfl⟩
        rw [if_neg h8]; rfl
    · subst e
      rw [rngL_len]
      simp? only []
      exact hR w' (by omega) f' (by omega)
theorem cut_take {α : Type} (xs : List α) {j : Int} (h : 0 ≤ j) : cutD xs none (some j) = xs.take j.toNat := by
  unfold cutD
  have e1 : HT.sIx xs.length 0 none = 0 := rfl
  have e2 : HT.sIx xs.length xs.length (some j) = min j.toNat xs.length := by
    show (if j < 0 then (j + (xs.length : Int)).toNat else min j.toNat xs.length) = _
    rw [if_neg (by omega)]
  rw [e1, e2, List.drop_zero, Nat.sub_zero]
  by_cases q : j.toNat ≤ xs.length
  · rw [Nat.min_eq_left q]
  · rw [Nat.min_eq_right (by omega), List.take_length, List.take_of_length_le (by omega)]
/-- doors in the order of their names -/
def sortDr (ds : List Dr) : List Dr := ds.mergeSort fun a b => leS a.1 b.1
theorem sortDr_mem {ds : List Dr} {d : Dr} : d ∈ sortDr ds ↔ d ∈ ds := List.mem_mergeSort
theorem sortDr_asc {ds : List Dr} (h : (ds.map (·.1)).Nodup) : Asc ((sortDr ds).map (·.1)) := by
  have p : (sortDr ds).Pairwise fun a b => leS a.1 b.1 = true := List.pairwise_mergeSort (le := fun a b : Dr => leS a.1 b.1) (fun a b c => leS_trans a.1 b.1 c.1) (fun a b => leS_total a.1 b.1) ds
  have n : ((sortDr ds).map (·.1)).Nodup := ((List.mergeSort_perm ds _).map _).nodup_iff.mpr h
  have p' : ((sortDr ds).map (·.1)).Pairwise fun a b => leS a b = true := List.pairwise_map.mpr p
  exact List.Pairwise.imp₂ (fun a b h1 h2 => ltS_of h1 h2) p' n
theorem nodup_inj {ds : List Dr} (h : (ds.map (·.1)).Nodup) {a b : Dr} (ha : a ∈ ds) (hb : b ∈ ds) (e : a.1 = b.1) : a = b := by
  induction ds with
  | nil => cases ha
  | cons d ds ih =>
    rw [List.map_cons] at h
    obtain ⟨h1, h2⟩ := List.nodup_cons.mp h
    rcases List.mem_cons.mp ha with ra | ha <;> rcases List.mem_cons.mp hb with rb | hb
    · rw [ra, rb]
    · exact absurd (List.mem_map.mpr ⟨b, hb, by rw [← e, ra]⟩) h1
    · exact absurd (List.mem_map.mpr ⟨a, ha, by rw [e, rb]⟩) h1
    · exact ih h2 ha hb
theorem side_alike (x : Option Str) : PySem.W.alike (sideD x).py (sideD x).py = true := by
  cases x <;> simp [sideD, D.py, PySem.W.alike]
theorem dr_py (d : Dr) : (drD d).py = .tuple [.str d.1, .str d.2.1, (sideD d.2.2).py] := rfl
theorem dr_lt {a b : Dr} (h : a.1 ≠ b.1) : PySem.W.dataLt (drD a).py (drD b).py = ltS a.1 b.1 := by
  have e : PyData.eqv (.str a.1) (.str b.1) = false := by simp [PyData.eqv, h]
  rw [dr_py, dr_py, PySem.W.dataLt_tuple, PySem.W.dataLt_cons (by simp [PySem.W.alike]), e, if_neg (by decide), PySem.W.dataLt_str]
  rfl
theorem dr_irr (a : Dr) : PySem.W.dataLt (drD a).py (drD a).py = false := by
  rw [dr_py, PySem.W.dataLt_tuple, PyProof.Rows.lex_irrefl]
theorem sortD_drs {ds : List Dr} (h : (ds.map (·.1)).Nodup) : sortD (ds.map drD) = (sortDr ds).map drD := by
  unfold sortD sortDr
  refine (List.map_mergeSort fun a ha b hb => ?_).symm
  rw [PySem.W.dataLe_eq]
  show leS a.1 b.1 = !PySem.W.dataLt (drD b).py (drD a).py
  by_cases e : a.1 = b.1
  · have := nodup_inj h ha hb e
    subst this
    rw [dr_irr, leS_lt, ltS_irr]
  · rw [dr_lt (Ne.symm e), leS_lt]
theorem okSort_drs {ds : List Dr} (h : (ds.map (·.1)).Nodup) (hl : ds.length ≤ sizeLine) : okSort (ds.map drD) := by
  refine ⟨.inr ⟨fun d hd => ?_, fun xs ys hx hy => ?_⟩, fun d hd => ?_, by rw [List.length_map]; exact hl⟩
  · obtain ⟨e, he, rfl⟩ := List.mem_map.mp hd
    obtain ⟨a, _, rfl⟩ := List.mem_map.mp he
    exact ⟨_, _, dr_py a⟩
  · obtain ⟨e, he, ex⟩ := List.mem_map.mp hx
    obtain ⟨a, ha, rfl⟩ := List.mem_map.mp he
    obtain ⟨e, he, ey⟩ := List.mem_map.mp hy
    obtain ⟨b, hb, rfl⟩ := List.mem_map.mp he
    rw [dr_py] at ex ey
    cases ex; cases ey
    by_cases e : a.1 = b.1
    · have := nodup_inj h ha hb e
      subst this
      simp [alL, PySem.W.alike, PyData.eqv, side_alike]
    · simp [alL, PySem.W.alike, PyData.eqv, e]
  · obtain ⟨a, _, rfl⟩ := List.mem_map.mp hd
    have : ∀ x : Option Str, (sideD x).isD = true ∧ (sideD x).py.depth = 0 := fun x => by cases x <;> exact ⟨rfl, rfl⟩
    have h2 := this a.2.2
    refine ⟨by simp [drD, D.isD, D.isDL, h2.1], ?_⟩
    rw [dr_py]
    simp [PyData.depth, PyData.depthAll, h2.2]
/-- sorted names -/
theorem sort_names {ss : List Str} (h : ss.Nodup) : Asc (sortS ss) ∧ ∀ x, x ∈ sortS ss ↔ x ∈ ss := ⟨sortS_asc h, fun x => List.mem_mergeSort⟩
def NmOk (ss : List Str) : Prop := ss.length = 20 ∧ ss.Nodup ∧ ∀ x ∈ ss, nameS x = true
theorem names_ok {w f : Nat} (hw : w < 4) (hf : f < 26) : NmOk (nameList w f 20) := by
  obtain ⟨h1, h2⟩ := goodNames_nodup (names_good w hw f hf)
  exact ⟨by simp [nameList], h1, h2⟩
def pfHouse : List D → Nat → (Res → Nat → Prop) → Prop
  | [.lst xs, .int a, .int b], k, R => ∃ ss : List Str, xs = ss.map .str ∧ NmOk ss ∧ (1 ≤ a ∧ a ≤ 8 ∧ 0 ≤ b ∧ b ≤ 8 ∧ k + 1000 < 1099511627776) ∧ ∀ (rs : List Str) (ds : List Dr) (k' : Nat), House rs ds → (∀ x ∈ rs, x ∈ ss) → (∀ d ∈ ds, d.1 ∈ ss) → (rs.length : Int) ≤ a → (ds.length : Int) ≤ b → k' ≤ k + 50 → R (.d (hsD rs ds)) k'
  | _, _, _ => False
theorem okInN (s : Str) : okIn .non [.non, .str s] = true := by
  simp [okIn, D.isD, D.isDL, D.py, D.pyL, sf, PyData.plainAll, PyData.plain, PyData.depthAll, PyData.depth]
theorem okInG (s g : Str) : okIn (.str g) [.non, .str s] = true := by
  simp [okIn, D.isD, D.isDL, D.py, D.pyL, sf, PyData.plainAll, PyData.plain, PyData.depthAll, PyData.depth]
theorem inN (s : Str) : inD .non [.non, .str s] = true := by
  simp [inD, D.eq, D.py, eqd, PyData.eqv]
theorem inG (s g : Str) : inD (.str g) [.non, .str s] = decide (g = s) := by
  rw [Bool.eq_iff_iff]
  simp only [inD, D.eq, D.py, eqd, PyData.eqv, List.any_cons, List.any_nil, Bool.or_false, Bool.false_or, beq_iff_eq, decide_eq_true_eq]
  exact eq_comm
theorem atM {m : Int} (m0 : 0 ≤ m) (m1 : m < 2) {n1 n2 : Str} : ∃ n, atI [D.str n1, D.str n2] m = some (.str n) ∧ (n = n1 ∨ n = n2) := by
  obtain rfl | rfl : m = 0 ∨ m = 1 := by omega
  · exact ⟨n1, zat0, .inl rfl⟩
  · exact ⟨n2, zat1, .inr rfl⟩
theorem sdMM {rs : List Str} {s g : Str} (hs : s ∈ rs) (hg : g ∈ rs) (e : g ≠ s) : sdOk rs (if ltS g s then g else s) (some (if ltS s g then g else s)) = true := by
  by_cases h : ltS g s = true
  · rw [if_pos h, ltS_as h]
    simp [sdOk, hs, hg, h]
  · rw [if_neg h]
    have h2 : ltS s g = true := by
      refine ltS_of ?_ (Ne.symm e)
      rw [leS_lt]; simpa using h
    rw [h2]
    simp [sdOk, hs, hg, h2]
theorem k_house (F : Fs) (hF : F.fn "_law_draw" = some (.dk pfDraw)) (hP : F.fn "_law_pick" = some (.dk pfPick)) : Keeps F N_law_house b_law_house (.dk pfHouse) := by
  intro p c ds k R h
  have sz : sizeLine = 16777216 := sizeLine_eq
  match ds, h with
  | [.lst xs, .int a, .int b], ⟨ss, hxs, hss, ⟨h1, h2, h3, h4, h5⟩, hR⟩ =>
    subst hxs
    simp? only [N_law_house, b_law_house, hF, hP, pfDraw]
    refine ⟨⟨by omega, by omega, by omega⟩, fun i i0 i1 => ?_⟩
    obtain ⟨hs1, hs2, hs3⟩ := hss
    have ecut : cutD (ss.map D.str) none (some (1 + i)) = (ss.take (1 + i).toNat).map .str := by rw [cut_take _ (by omega), List.map_take]
    rw [ecut, sortD_strs]
    have hnd : (ss.take (1 + i).toNat).Nodup := List.Sublist.nodup (List.take_sublist _ _) hs2
    have hasc := sortS_asc hnd
    have hmem : ∀ x, x ∈ sortS (ss.take (1 + i).toNat) → x ∈ ss := fun x hx => List.mem_of_mem_take (List.mem_mergeSort.mp hx)
    have hlen : (sortS (ss.take (1 + i).toNat)).length = (1 + i).toNat := by
      rw [sortS, List.length_mergeSort, List.length_take, hs1]; omega
    refine ⟨okSort_strs (fun d hd => by obtain ⟨x, _, rfl⟩ := List.mem_map.mp hd; exact ⟨x, rfl⟩) (by rw [List.length_map, List.length_take]; omega), ⟨by omega, by omega, by omega⟩, fun j j0 j1 => ⟨⟨by omega, by omega⟩, ?_⟩⟩
    generalize sortS (ss.take (1 + i).toNat) = rs at hasc hmem hlen ⊢
    have hne : rs ≠ [] := fun z => by rw [z] at hlen; simp at hlen; omega
    have hne' : rs.map D.str ≠ [] := by simpa using hne
    have hnm : ∀ x ∈ rs, nameS x = true := fun x hx => hs3 x (hmem x hx)
    have hrl : (rs.map D.str).length < 1073741824 := by rw [List.length_map]; omega
    refine for_inv (fun i ρ => ∃ (ds : List Dr) (x6 x7 x8 x9 : Option D), ρ = ⟨[some (.d (.cst (.ref p))), some (.d (.lst (ss.map .str))), some (.d (.int a)), some (.d (.int b)), some (.d (.lst (rs.map .str))), some (.l (ds.map drD)), x6.map .d, x7.map .d, x8.map .d, x9.map .d], k + 2 + 3 * i⟩ ∧
        ds.length = i ∧ (ds.map (·.1)).Nodup ∧ (∀ d ∈ ds, ∃ j < i, ss[j]? = some d.1 ∨ ss[19 - j]? = some d.1) ∧ ∀ d ∈ ds, sdOk rs d.2.1 d.2.2 = true)
      ⟨[], none, none, none, none, rfl, rfl, by simp, by simp, by simp⟩ (fun i x ρ Kn hx ⟨ds, x6, x7, x8, x9, e, hdl, hdn, hdi, hds⟩ hK => ?_) fun ρ ⟨ds, x6, x7, x8, x9, e, hdl, hdn, hdi, hds⟩ => ?_
    · subst e
      obtain ⟨hi, rfl⟩ := rngL_get hx
      have hi8 : i < 8 := by omega
      have hpn : 1 ≤ sizeLine ∧ (rs.map D.str).length + 1 ≤ sizeLine := ⟨by omega, by rw [List.length_map]; omega⟩
      have hx1 : ∃ n1, ss[i]? = some n1 := ⟨ss[i]'(by omega), by simp⟩
      have hx2 : ∃ n2, ss[19 - i]? = some n2 := ⟨ss[19 - i]'(by omega), by simp⟩
      obtain ⟨n1, hn1⟩ := hx1
      obtain ⟨n2, hn2⟩ := hx2
      have at1 : atI (ss.map D.str) (0 + (i : Int)) = some (.str n1) := by
        unfold atI ixN
        rw [if_pos (by omega), if_pos (by rw [List.length_map]; omega)]
        have e : (0 + (i : Int)).toNat = i := by omega
        simp only [e, Option.bind_some]
        rw [List.getElem?_map, hn1]; rfl
      have at2 : atI (ss.map D.str) (19 - (0 + (i : Int))) = some (.str n2) := by
        unfold atI ixN
        rw [if_pos (by omega), if_pos (by rw [List.length_map]; omega)]
        have e : (19 - (0 + (i : Int))).toNat = 19 - i := by omega
        simp only [e, Option.bind_some]
        rw [List.getElem?_map, hn2]; rfl
      have new : ∀ n, (n = n1 ∨ n = n2) → ∀ d ∈ ds, d.1 ≠ n := fun n hn d hd e => by
        obtain ⟨j, hj, hj'⟩ := hdi d hd
        have inj : ∀ {u v : Nat} {z : Str}, ss[u]? = some z → ss[v]? = some z → u = v := fun {u v z} p q => by
          obtain ⟨pu, pe⟩ := List.getElem?_eq_some_iff.mp p
          obtain ⟨qu, qe⟩ := List.getElem?_eq_some_iff.mp q
          rcases Nat.lt_trichotomy u v with lt | e | lt
          · exact absurd (pe.trans qe.symm) (List.pairwise_iff_getElem.mp hs2 u v pu qu lt)
          · exact e
          · exact absurd (qe.trans pe.symm) (List.pairwise_iff_getElem.mp hs2 v u qu pu lt)
        rw [e] at hj'
        rcases hn with rfl | rfl <;> rcases hj' with hj' | hj'
        · have := inj hj' hn1; omega
        · have := inj hj' hn1; omega
        · have := inj hj' hn2; omega
        · have := inj hj' hn2; omega
      have fin : ∀ (n s : Str) (f : Option Str) (x7 x8 x9 : D) (z : D), (n = n1 ∨ n = n2) → sdOk rs s f = true → z = drD (n, s, f) →
          Kn ⟨[some (.d (.cst (.ref p))), some (.d (.lst (ss.map .str))), some (.d (.int a)), some (.d (.int b)), some (.d (.lst (rs.map .str))), some (.l (ds.map drD ++ [z])), some (.d (.int (0 + i))), some (.d x7), some (.d x8), some (.d x9)], k + 2 + 3 * i + 1 + 1 + 1⟩ := fun n s f x7 x8 x9 z hn hs hz => by
        refine hK _ ⟨ds ++ [(n, s, f)], some (.int (0 + i)), some x7, some x8, some x9, ?_, by simp [hdl], ?_, fun d hd => ?_, fun d hd => ?_⟩
        · subst hz
          simp only [List.map_append, List.map_cons, List.map_nil, Option.map_some]
          congr 1
        · rw [List.map_append]
          refine List.nodup_append.mpr ⟨hdn, by simp, fun u hu v hv e => ?_⟩
          obtain ⟨d, hd, rfl⟩ := List.mem_map.mp hu
          have hv : v = n := by simpa using hv
          exact new n hn d hd (e.trans hv)
        · rcases List.mem_append.mp hd with hd | hd
          · obtain ⟨j, hj, q⟩ := hdi d hd
            exact ⟨j, by omega, q⟩
          · have hd : d = (n, s, f) := by simpa using hd
            subst hd
            refine ⟨i, by omega, ?_⟩
            rcases hn with rfl | rfl
            · exact .inl hn1
            · exact .inr hn2
        · rcases List.mem_append.mp hd with hd | hd
          · exact hds d hd
          · have hd : d = (n, s, f) := by simpa using hd
            subst hd; exact hs
      simp? only [pfPick, pfDraw]
      refine ⟨⟨hne', hrl, by omega⟩, fun x hx => ⟨hpn.1, hpn.2, ⟨by simp, by simp; omega, by omega⟩, fun y hy => ?_⟩⟩
      obtain ⟨s, hs, rfl⟩ := List.mem_map.mp hx
      have hs' : sdOk rs s none = true := by simpa [sdOk] using hs
      refine ⟨by omega, ?_⟩
      rcases List.mem_append.mp hy with hy | hy
      · obtain ⟨g, hg, rfl⟩ := List.mem_map.mp hy
        rw [inG]
        refine ⟨okInG s g, ?_⟩
        by_cases e : g = s
        · subst e
          rw [if_pos (by simp)]
          simp? only [at1, at2]
          refine ⟨by omega, ⟨_, rfl⟩, by omega, ⟨by decide, by decide, by omega⟩, fun m m0 m1 => ?_⟩
          obtain ⟨n, e1, e2⟩ := atM m0 m1 (n1 := n1) (n2 := n2)
          exact ⟨_, e1, by omega, by omega, by rw [List.length_map]; omega, fin n g none _ _ _ _ e2 hs' rfl⟩
        · rw [if_neg (by simp [e])]
          have lt := sdMM hs hg e
          simp? only [at1, at2]
          refine ⟨by omega, ⟨_, rfl⟩, by omega, ⟨by decide, by decide, by omega⟩, fun m m0 m1 => ?_⟩
          obtain ⟨n, e1, e2⟩ := atM m0 m1 (n1 := n1) (n2 := n2)
          exact ⟨_, e1, by omega, by omega, by rw [List.length_map]; omega, fin n _ (some _) _ _ _ _ e2 lt rfl⟩
      · have hy : y = .non := by simpa using hy
        subst hy
        refine ⟨okInN s, ?_⟩
        rw [inN, if_pos rfl]
        simp? only [at1, at2]
        refine ⟨by omega, ⟨_, rfl⟩, by omega, ⟨by decide, by decide, by omega⟩, fun m m0 m1 => ?_⟩
        obtain ⟨n, e1, e2⟩ := atM m0 m1 (n1 := n1) (n2 := n2)
        exact ⟨_, e1, by omega, by omega, by rw [List.length_map]; omega, fin n s none _ _ _ _ e2 hs' rfl⟩
    · subst e
      rw [rngL_len] at hdl
      have hok := okSort_drs hdn (by omega)
      have hfin : House rs (sortDr ds) := ⟨hne, hnm, hasc, fun d hd => ?_, sortDr_asc hdn, fun d hd => hds d (sortDr_mem.mp hd)⟩
      · have hin : ∀ d ∈ sortDr ds, d.1 ∈ ss := fun d hd => by
          obtain ⟨j, _, hj | hj⟩ := hdi d (sortDr_mem.mp hd)
          · exact List.mem_of_getElem? hj
          · exact List.mem_of_getElem? hj
        have hl2 : (sortDr ds).length = ds.length := List.length_mergeSort _
        have fin := hR rs (sortDr ds) (k + 2 + 3 * (rngL 0 j.toNat).length) hfin hmem hin (by omega) (by omega) (by rw [rngL_len]; omega)
        simp? only []
        refine ⟨hok, ?_⟩
        rw [sortD_drs hdn]
        exact ⟨by omega, fin⟩
      · obtain ⟨j, _, hj | hj⟩ := hdi d (sortDr_mem.mp hd)
        · exact hs3 _ (List.mem_of_getElem? hj)
        · exact hs3 _ (List.mem_of_getElem? hj)
set_option maxRecDepth 100000
set_option maxHeartbeats 4000000
mutual
/-- leaves: ints at most c beyond the bound, texts of signs below 128 -/
def lf (c : Nat) : D → Bool
  | .non => true
  | .bl _ => true
  | .int i => decide (i.natAbs ≤ 10 ^ 39 + c)
  | .str x => x.cps.toList.all fun a => decide (a < 128)
  | .lst xs => lfL c xs
  | .tup xs => lfL c xs
  | .dic ks xs => ks.isEmpty && xs.isEmpty
  | _ => false
def lfL (c : Nat) : List D → Bool
  | [] => true
  | d :: ds => lf c d && lfL c ds
end
theorem lfL_all {c : Nat} : ∀ xs : List D, lfL c xs = true ↔ ∀ x ∈ xs, lf c x = true
  | [] => by simp [lfL]
  | x :: xs => by simp [lfL, lfL_all xs]
mutual
theorem lf_mono {c c' : Nat} (h : c ≤ c') : ∀ d : D, lf c d = true → lf c' d = true
  | .non, _ => rfl
  | .bl _, _ => rfl
  | .int i, e => by simp only [lf, decide_eq_true_eq] at e ⊢; omega
  | .str x, e => e
  | .lst xs, e => by simp only [lf] at e ⊢; exact lfL_mono h xs e
  | .tup xs, e => by simp only [lf] at e ⊢; exact lfL_mono h xs e
  | .dic ks xs, e => e
  | .dit _ _, e => e
  | .ins _ _ _, e => e
  | .cst _, e => e
theorem lfL_mono {c c' : Nat} (h : c ≤ c') : ∀ xs : List D, lfL c xs = true → lfL c' xs = true
  | [], _ => rfl
  | d :: ds, e => by
    simp only [lfL, Bool.and_eq_true] at e ⊢
    exact ⟨lf_mono h d e.1, lfL_mono h ds e.2⟩
end
theorem int_leaf {i : Int} {c : Nat} (hc : c ≤ 100) (h : i.natAbs ≤ 10 ^ 39 + c) : Sm 43 0 0 (.int i) := Sm.int (by decide) (by omega) (by omega)
theorem str_leaf {x : Str} (h : (x.cps.toList.all fun a => decide (a < 128)) = true) : Sm 43 x.length 0 (.str x) := Sm.str (fun a ha => of_decide_eq_true (List.all_eq_true.mp h a ha)) (Nat.le_refl _)
mutual
theorem lf_sm {c : Nat} (hc : c ≤ 100) : ∀ d : D, lf c d = true → d.isD = true ∧ d.py.showable = true ∧ d.py.leavesShort 43 = true
  | .non, _ => ⟨rfl, rfl, rfl⟩
  | .bl _, _ => ⟨rfl, rfl, rfl⟩
  | .int i, e => by
    have := int_leaf hc (by simpa [lf] using e)
    exact ⟨this.isD, this.sh, this.lv⟩
  | .str x, e => by
    have := str_leaf (x := x) (by simpa only [lf] using e)
    exact ⟨this.isD, this.sh, this.lv⟩
  | .lst xs, e => by
    obtain ⟨h1, h2, h3⟩ := lfL_sm hc xs (by simpa only [lf] using e)
    exact ⟨by simp only [D.isD, h1], by simp only [D.py, PyData.showable, h2], by simp only [D.py, PyData.leavesShort, h3]⟩
  | .tup xs, e => by
    obtain ⟨h1, h2, h3⟩ := lfL_sm hc xs (by simpa only [lf] using e)
    exact ⟨by simp only [D.isD, h1], by simp only [D.py, PyData.showable, h2], by simp only [D.py, PyData.leavesShort, h3]⟩
  | .dic ks xs, e => by
    simp only [lf, Bool.and_eq_true, List.isEmpty_iff] at e
    obtain ⟨rfl, rfl⟩ := e
    exact ⟨rfl, rfl, rfl⟩
  | .dit _ _, e => by cases e
  | .ins _ _ _, e => by cases e
  | .cst _, e => by cases e
theorem lfL_sm {c : Nat} (hc : c ≤ 100) : ∀ xs : List D, lfL c xs = true → D.isDL xs = true ∧ PyData.showableAll (D.pyL xs) = true ∧ PyData.leavesShortAll 43 (D.pyL xs) = true
  | [], _ => ⟨rfl, rfl, rfl⟩
  | d :: ds, e => by
    simp only [lfL, Bool.and_eq_true] at e
    obtain ⟨a1, a2, a3⟩ := lf_sm hc d e.1
    obtain ⟨b1, b2, b3⟩ := lfL_sm hc ds e.2
    exact ⟨by simp only [D.isDL, a1, b1, Bool.and_self], by simp only [D.pyL, PyData.showableAll, a2, b2, Bool.and_self], by simp only [D.pyL, PyData.leavesShortAll, a3, b3, Bool.and_self]⟩
end
/-- leaves, parts, depth -/
structure Lv (c m n : Nat) (d : D) : Prop where
  lf : lf c d = true
  bk : d.py.bulk ≤ m
  dp : d.py.depth ≤ n
structure LvL (c m n : Nat) (xs : List D) : Prop where
  lf : ∀ x ∈ xs, Q.lf c x = true
  bk : PyData.bulkAll (D.pyL xs) ≤ m
  dp : PyData.depthAll (D.pyL xs) ≤ n
section
variable {c m n : Nat} {d : D} {xs ys : List D}
theorem Lv.sm (h : Lv c m n d) (hc : c ≤ 100) : Sm 43 m n d := let ⟨a, b, e⟩ := lf_sm hc d h.lf; ⟨a, b, e, h.bk, h.dp⟩
theorem Lv.mono {c' m' n' : Nat} (h : Lv c m n d) (h1 : c ≤ c') (h2 : m ≤ m') (h3 : n ≤ n') : Lv c' m' n' d := ⟨lf_mono h1 d h.lf, Nat.le_trans h.bk h2, Nat.le_trans h.dp h3⟩
theorem LvL.mono {c' m' n' : Nat} (h : LvL c m n xs) (h1 : c ≤ c') (h2 : m ≤ m') (h3 : n ≤ n') : LvL c' m' n' xs := ⟨fun x hx => lf_mono h1 x (h.lf x hx), Nat.le_trans h.bk h2, Nat.le_trans h.dp h3⟩
theorem Lv.items (h : Lv c m (n + 1) (.tup xs)) : LvL c m n xs := by
  have h1 := h.lf; have h2 := h.bk; have h3 := h.dp
  simp only [Q.lf, D.py, PyData.bulk, PyData.depth] at h1 h2 h3
  exact ⟨(lfL_all xs).mp h1, h2, by omega⟩
theorem LvL.tup (h : LvL c m n xs) : Lv c m (n + 1) (.tup xs) := by
  refine ⟨?_, ?_, ?_⟩
  · simp only [Q.lf]; exact (lfL_all xs).mpr h.lf
  · simp only [D.py, PyData.bulk]; exact h.bk
  · simp only [D.py, PyData.depth]; have := h.dp; omega
theorem LvL.lst (h : LvL c m n xs) : Lv c m (n + 1) (.lst xs) := by
  refine ⟨?_, ?_, ?_⟩
  · simp only [Q.lf]; exact (lfL_all xs).mpr h.lf
  · simp only [D.py, PyData.bulk]; exact h.bk
  · simp only [D.py, PyData.depth]; have := h.dp; omega
theorem LvL.nil : LvL c 0 0 [] := ⟨by simp, Nat.le_refl _, Nat.le_refl _⟩
theorem Lv.one (h : Lv c m n d) : LvL c (m + 1) n [d] := by
  refine ⟨fun x hx => ?_, ?_, ?_⟩
  · rw [List.mem_singleton.mp hx]; exact h.lf
  · simp only [D.pyL, PyData.bulkAll]; have := h.bk; omega
  · simp only [D.pyL, PyData.depthAll]; have := h.dp; omega
theorem bulk_app : ∀ xs ys : List D, PyData.bulkAll (D.pyL (xs ++ ys)) = PyData.bulkAll (D.pyL xs) + PyData.bulkAll (D.pyL ys)
  | [], ys => by simp [D.pyL, PyData.bulkAll]
  | x :: xs, ys => by
    have := bulk_app xs ys
    simp only [List.cons_append, D.pyL, PyData.bulkAll, this]; omega
theorem depth_app : ∀ xs ys : List D, PyData.depthAll (D.pyL (xs ++ ys)) = max (PyData.depthAll (D.pyL xs)) (PyData.depthAll (D.pyL ys))
  | [], ys => by simp [D.pyL, PyData.depthAll]
  | x :: xs, ys => by
    have := depth_app xs ys
    simp only [List.cons_append, D.pyL, PyData.depthAll, this]; omega
theorem LvL.app {c m n m' : Nat} {xs ys : List D} (h : LvL c m n xs) (g : LvL c m' n ys) : LvL c (m + m') n (xs ++ ys) := by
  refine ⟨fun x hx => ?_, ?_, ?_⟩
  · rcases List.mem_append.mp hx with hx | hx
    · exact h.lf x hx
    · exact g.lf x hx
  · rw [bulk_app]; have := h.bk; have := g.bk; omega
  · rw [depth_app]; have := h.dp; have := g.dp; omega
theorem bulk_rev (xs : List D) : PyData.bulkAll (D.pyL xs.reverse) = PyData.bulkAll (D.pyL xs) := by
  induction xs with
  | nil => rfl
  | cons x xs ih =>
    rw [List.reverse_cons, bulk_app, ih]
    simp only [D.pyL, PyData.bulkAll]; omega
theorem depth_rev (xs : List D) : PyData.depthAll (D.pyL xs.reverse) = PyData.depthAll (D.pyL xs) := by
  induction xs with
  | nil => rfl
  | cons x xs ih =>
    rw [List.reverse_cons, depth_app, ih]
    simp only [D.pyL, PyData.depthAll]; omega
theorem LvL.rev (h : LvL c m n xs) : LvL c m n xs.reverse := ⟨fun x hx => h.lf x (List.mem_reverse.mp hx), by rw [bulk_rev]; exact h.bk, by rw [depth_rev]; exact h.dp⟩
end
theorem cut_drop {α : Type} (xs : List α) {j : Int} (h : 0 ≤ j) : cutD xs (some j) none = xs.drop j.toNat := by
  unfold cutD
  have e2 : HT.sIx xs.length xs.length none = xs.length := rfl
  have e1 : HT.sIx xs.length 0 (some j) = min j.toNat xs.length := by
    show (if j < 0 then (j + (xs.length : Int)).toNat else min j.toNat xs.length) = _
    rw [if_neg (by omega)]
  rw [e1, e2]
  by_cases q : j.toNat ≤ xs.length
  · rw [Nat.min_eq_left q, List.take_of_length_le (by simp)]
  · rw [Nat.min_eq_right (by omega), List.drop_of_length_le (by omega : xs.length ≤ j.toNat)]
    simp
/-- before, at, behind a place -/
theorem split_at {xs : List D} {i : Int} (h0 : 0 ≤ i) (h1 : i < xs.length) : ∃ as x bs, xs = as ++ x :: bs ∧ cutD xs none (some i) = as ∧ cutD xs none (some (i + 1)) = as ++ [x] ∧ cutD xs (some i) none = x :: bs ∧ cutD xs (some (i + 1)) none = bs ∧ atI xs i = some x := by
  have hi : i.toNat < xs.length := by omega
  refine ⟨xs.take i.toNat, xs[i.toNat], xs.drop (i.toNat + 1), ?_, ?_, ?_, ?_, ?_, ?_⟩
  · rw [← List.drop_eq_getElem_cons hi, List.take_append_drop]
  · rw [cut_take _ h0]
  · rw [cut_take _ (by omega)]
    have : (i + 1).toNat = i.toNat + 1 := by omega
    rw [this, List.take_add_one, List.getElem?_eq_getElem hi]; rfl
  · rw [cut_drop _ h0, ← List.drop_eq_getElem_cons hi]
  · rw [cut_drop _ (by omega)]
    congr 1; omega
  · unfold atI ixN
    rw [if_pos h0, if_pos h1]
    simp [hi]
set_option maxRecDepth 100000
set_option maxHeartbeats 4000000
/-- bent values of depth n -/
def pfBent (n : Nat) : List D → Nat → (Res → Nat → Prop) → Prop
  | [d], k, R => ∃ m c q : Nat, q ≤ n ∧ Lv c m q d ∧ c ≤ 50 ∧ m ≤ 100000 ∧ k + 4 * q + 4 < 1099511627776 ∧ ∀ d' k', Lv (c + 1) (3 * m + 100) (q + 1) d' → k' ≤ k + 2 * q + 2 → R (.d d') k'
  | _, _, _ => False
theorem low_upper {x : Str} (h : ∀ c ∈ x.cps.toList, c < 128) : (∀ c ∈ (Txt.upper x).cps.toList, c < 128) ∧ (Txt.upper x).length = x.length := by
  rw [PyProof.Rows.upper_ascii h]
  refine ⟨fun c hc => ?_, ?_⟩
  · have hc : c ∈ (x.cps.map PyProof.Rows.up1).toList := hc
    rw [Array.toList_map] at hc
    obtain ⟨a, ha, rfl⟩ := List.mem_map.mp hc
    have := h a ha
    unfold PyProof.Rows.up1
    split <;> omega
  · show (x.cps.map PyProof.Rows.up1).size = x.cps.size
    simp
theorem low_rep3 {x : Str} (h : ∀ c ∈ x.cps.toList, c < 128) : (∀ c ∈ (strRep x 3).cps.toList, c < 128) ∧ (strRep x 3).length ≤ 3 * x.length := by
  unfold strRep
  rw [if_neg (by decide)]
  split
  · exact ⟨h, by omega⟩
  · refine ⟨fun c hc => ?_, ?_⟩
    · rcases rep_mem _ _ _ c hc with z | z
      · cases z
      · exact h c z
    · show (List.foldl (fun x1 x2 => x1 ++ x2) #[] (List.replicate (Int.toNat 3) x.cps)).size ≤ _
      rw [rep_size]
      have e0 : (#[] : Array Nat).size = 0 := rfl
      have e3 : Int.toNat 3 = 3 := rfl
      rw [e0, e3, Nat.zero_add]
      exact Nat.le_refl _
theorem low_int (i : Int) : ∀ c ∈ (Str.ofString (toString i)).cps.toList, c < 128 := by
  intro c hc
  have e : (Str.ofString (toString i)).cps.toList = (toString i).toList.map Char.toNat := by
    rw [Str.ofString_eq_toList]
  rw [e] at hc
  obtain ⟨a, ha, rfl⟩ := List.mem_map.mp hc
  exact PySem.int_ascii i a ha
theorem lv_str {c m n : Nat} {x : Str} (h : ∀ a ∈ x.cps.toList, a < 128) (hl : x.length ≤ m) : Lv c m n (.str x) :=
  ⟨by simp only [lf]; exact List.all_eq_true.mpr fun a ha => decide_eq_true (h a ha), hl, Nat.zero_le _⟩
theorem lv_int {c m n : Nat} {i : Int} (h : i.natAbs ≤ 10 ^ 39 + c) : Lv c m n (.int i) := ⟨by simp only [lf, decide_eq_true_eq]; exact h, Nat.zero_le _, Nat.zero_le _⟩
theorem lv_bl {c m n : Nat} {b : Bool} : Lv c m n (.bl b) := ⟨rfl, Nat.zero_le _, Nat.zero_le _⟩
theorem lv_non {c m n : Nat} : Lv c m n .non := ⟨rfl, Nat.zero_le _, Nat.zero_le _⟩
set_option maxRecDepth 100000
set_option maxHeartbeats 4000000
def oddL (d : D) : List D := [.non, .bl true, .bl false, .int 0, .int 1, .int (-1), .int (10 ^ Int.toNat 39), .str (Str.ofString ""), .str (Str.ofString "a"), .str (Str.ofString "zz"), .str (Str.ofString "A"), .str (Str.ofString "outside"), .tup [], .lst [], .dic [] [], .tup [.non], .lst [d], .tup [d]]
theorem odd_ok {c m n : Nat} {d : D} (h : Lv c m n d) : ∀ x ∈ oddL d, Lv (c + 1) (3 * m + 100) (n + 1) x := by
  intro x hx
  simp only [oddL, List.mem_cons, List.not_mem_nil, or_false] at hx
  rcases hx with rfl | rfl | rfl | rfl | rfl | rfl | rfl | rfl | rfl | rfl | rfl | rfl | rfl | rfl | rfl | rfl | rfl | rfl
  · exact lv_non
  · exact lv_bl
  · exact lv_bl
  · exact lv_int (Nat.zero_le _)
  · exact lv_int (by show (1 : Nat) ≤ _; omega)
  · exact lv_int (by show (1 : Nat) ≤ _; omega)
  · refine lv_int ?_
    have e : Int.toNat 39 = 39 := rfl
    rw [e]
    have : ((10 : Int) ^ 39).natAbs = 10 ^ 39 := by decide +kernel
    omega
  · exact lv_str (by decide +kernel) (by have : (Str.ofString "").length = 0 := by decide +kernel
                                         omega)
  · exact lv_str (by decide +kernel) (by have : (Str.ofString "a").length = 1 := by decide +kernel
                                         omega)
  · exact lv_str (by decide +kernel) (by have : (Str.ofString "zz").length = 2 := by decide +kernel
                                         omega)
  · exact lv_str (by decide +kernel) (by have : (Str.ofString "A").length = 1 := by decide +kernel
                                         omega)
  · exact lv_str (by decide +kernel) (by have : (Str.ofString "outside").length = 7 := by decide +kernel
                                         omega)
  · exact (LvL.nil.tup).mono (Nat.zero_le _) (by omega) (by omega)
  · exact (LvL.nil.lst).mono (Nat.zero_le _) (by omega) (by omega)
  · exact ⟨rfl, Nat.zero_le _, by show (PyData.dict []).depth ≤ _; simp [PyData.depth, PyData.depthKv]⟩
  · exact ((lv_non (c := c) (m := 0) (n := 0)).one.tup).mono (by omega) (by omega) (by omega)
  · exact (h.one.lst).mono (by omega) (by omega) (by omega)
  · exact (h.one.tup).mono (by omega) (by omega) (by omega)
theorem all_app {P : D → Prop} {xs ys : List D} (h : ∀ x ∈ xs, P x) (g : ∀ x ∈ ys, P x) : ∀ x ∈ xs ++ ys, P x := fun x hx => (List.mem_append.mp hx).elim (h x) (g x)
theorem int_digits {i : Int} (h : i.natAbs ≤ 10 ^ 39 + 50) : (Str.ofString (toString i)).length ≤ 43 := shown_int (by omega) (by omega)
theorem int_small {i : Int} (h : i.natAbs ≤ 10 ^ 39 + 50) : i.natAbs.log2 < 1920 := by
  by_cases z : i.natAbs = 0
  · rw [z]; decide
  · refine (Nat.log2_lt z).mpr ?_
    exact Nat.lt_of_le_of_lt h (by decide +kernel)
def oddIS : IS := .set 5 (.lst [.non, .bl true, .bl false, .int 0, .int 1, .neg (.int 1), .bin .Pow (.int 10) (.int 39), .str "", .str "a", .str "zz", .str "A", .str "outside", .tup [], .lst [], .dct [], .tup [.non], .lst [.var 1], .tup [.var 1]])
theorem bent_eq : b_law_bent = [.set 2 (.call "_law_draw" [.var 0, .int 9]), .ite (.or [.not (.isi .tuple (.var 1)), .cmp .Eq (.var 1) (.tup []), .cmp .Eq (.var 2) (.int 0)]) [oddIS, .ite (.isi .int (.var 1)) [.set 5 (.bin .Add (.var 5) (.lst [.bin .Add (.var 1) (.int 1), .bin .Sub (.var 1) (.int 1), .cmp .Eq (.var 1) (.int 1), .fn .str [.var 1]]))] [], .ite (.isi .str (.var 1)) [.set 5 (.bin .Add (.var 5) (.lst [.bin .Add (.var 1) (.str "a"), .sl (.var 1) (some (.int 1)) none, .mth .upper (.var 1) [], .bin .Add (.var 1) (.str " "), .bin .Mult (.var 1) (.int 3)]))] [], .ret (.call "_law_pick" [.var 0, .var 5])] [], .set 3 (.call "_law_draw" [.var 0, .fn .len [.var 1]]), .set 4 (.lst [.bin .Add (.sl (.var 1) none (some (.var 3))) (.sl (.var 1) (some (.bin .Add (.var 3) (.int 1))) none), .bin .Add (.sl (.var 1) none (some (.bin .Add (.var 3) (.int 1)))) (.sl (.var 1) (some (.var 3)) none), .rev (.var 1), .fn .list [.var 1]]), .ite (.cmp .Lt (.var 2) (.int 5)) [.ret (.ix (.var 4) (.bin .Sub (.var 2) (.int 1)))] [], .ret (.bin .Add (.bin .Add (.sl (.var 1) none (some (.var 3))) (.tup [.call "_law_bent" [.var 0, .ix (.var 1) (.var 3)]])) (.sl (.var 1) (some (.bin .Add (.var 3) (.int 1))) none))] := rfl
theorem odd_sm {F : Fs} {dk : Option (Addr × Addr)} {c : C} {p0 w : Option B} {d : D} {k : Nat} : oddIS.sm F dk ⟨[p0, some (.d d), w, none, none, none], k⟩ c = ((CPow 10 39 ∧ 1 ≤ sizeLine ∧ 18 ≤ sizeLine) ∧ c.nx ⟨[p0, some (.d d), w, none, none, some (.l (oddL d))], k⟩) := by
  refine propext ?_
  simp? only [oddIS]
  exact ⟨fun ⟨a, b, _, _, e, f⟩ => ⟨⟨a, b, e⟩, f⟩, fun ⟨⟨a, b, e⟩, f⟩ => ⟨a, b, b, b, e, f⟩⟩
theorem oddL_ne (d : D) : oddL d ≠ [] := by simp [oddL]
theorem oddL_len (d : D) : (oddL d).length = 18 := rfl
section
variable {F : Fs} {dk : Option (Addr × Addr)} {s : IS} {r : List IS} {ρ : S} {c : C} {t : IE} {a b : List IS}
theorem step (P : S → Prop) (h1 : ∀ K : S → Prop, (∀ ρ', P ρ' → K ρ') → IS.sm F dk s ρ ⟨K, c.rt, c.bk, c.ct⟩) (h2 : ∀ ρ', P ρ' → IS.sms F dk r ρ' c) : IS.sms F dk (s :: r) ρ c := h1 _ h2
theorem step_ite (P : Bool → S → Prop) (h1 : ∀ K : Bool → S → Prop, (∀ b' ρ', P b' ρ' → K b' ρ') → (IE.sm F dk t).2 ρ K) (h2 : ∀ b' ρ', P b' ρ' → if b' = true then IS.sms F dk a ρ' c else IS.sms F dk b ρ' c) : IS.sm F dk (.ite t a b) ρ c := h1 _ h2
end
set_option maxRecDepth 100000
set_option maxHeartbeats 4000000
theorem k_bent (n : Nat) (F : Fs) (hF : F.fn "_law_draw" = some (.dk pfDraw)) (hP : F.fn "_law_pick" = some (.dk pfPick)) (hB : n = 0 ∨ ∃ n', n = n' + 1 ∧ F.fn "_law_bent" = some (.dk (pfBent n'))) : Keeps F N_law_bent b_law_bent (.dk (pfBent n)) := by
  intro p c ds k R h
  have sz : sizeLine = 16777216 := sizeLine_eq
  match ds, h with
  | [d], ⟨m, cc, q, hq, hd, hc, hm, hk, hR⟩ =>
    have hsm := hd.sm (by omega)
    have hodd := odd_ok hd
    have one : ∀ {a b : Nat}, 0 ≤ a → a ≤ 1000 → a ≤ sizeLine := fun _ h => by omega
    have h18 : CPow 10 39 ∧ 1 ≤ sizeLine ∧ 18 ≤ sizeLine := ⟨⟨by decide, by decide, by decide⟩, by omega, by omega⟩
    rw [bent_eq]
    refine step (fun ρ' => ∃ w : Int, 0 ≤ w ∧ w < 9 ∧ ρ' = ⟨[some (.d (.cst (.ref p))), some (.d d), some (.d (.int w)), none, none, none], k + 1⟩) (fun K hK => ?_) fun ρ' ⟨w, w0, wl, e⟩ => ?_
    · simp? only [N_law_bent, hF, pfDraw]
      exact ⟨⟨by decide, by decide, by omega⟩, fun i i0 i1 => hK _ ⟨i, i0, i1, rfl⟩⟩
    subst e
    -- the odd values, with more of them
    have odd : ∀ (nx : S → Prop) (more : List D), (∀ x ∈ more, Lv (cc + 1) (3 * m + 100) (q + 1) x) → more.length ≤ 10 → IS.sm F (some (p, c)) (.ret (.call "_law_pick" [.var 0, .var 5])) ⟨[some (.d (.cst (.ref p))), some (.d d), some (.d (.int w)), none, none, some (.l (oddL d ++ more))], k + 1⟩ ⟨nx, (retC R).rt, (retC R).bk, (retC R).ct⟩ := fun nx more hm hl => by
      have hlen : (oddL d ++ more).length ≤ 28 := by rw [List.length_append, oddL_len]; omega
      have hne : oddL d ++ more ≠ [] := by simp [oddL]
      generalize hg : oddL d ++ more = L at hlen hne
      simp? only [hP, pfPick]
      exact ⟨⟨hne, by omega, by omega⟩, fun x hx => hR x _ (by rw [← hg] at hx; exact all_app hodd hm x hx) (by omega)⟩
    have st5 : ∀ L : List D, (⟨[some (.d (.cst (.ref p))), some (.d d), some (.d (.int w)), none, none, some (.l L)], k + 1⟩ : S) = ⟨[some (.d (.cst (.ref p))), some (.d d), some (.d (.int w)), none, none, some (.l L)], k + 1⟩ := fun _ => rfl
    have oddBr : ∀ nx : S → Prop, IS.sms F (some (p, c)) [oddIS, .ite (.isi .int (.var 1)) [.set 5 (.bin .Add (.var 5) (.lst [.bin .Add (.var 1) (.int 1), .bin .Sub (.var 1) (.int 1), .cmp .Eq (.var 1) (.int 1), .fn .str [.var 1]]))] [], .ite (.isi .str (.var 1)) [.set 5 (.bin .Add (.var 5) (.lst [.bin .Add (.var 1) (.str "a"), .sl (.var 1) (some (.int 1)) none, .mth .upper (.var 1) [], .bin .Add (.var 1) (.str " "), .bin .Mult (.var 1) (.int 3)]))] [], .ret (.call "_law_pick" [.var 0, .var 5])] ⟨[some (.d (.cst (.ref p))), some (.d d), some (.d (.int w)), none, none, none], k + 1⟩ ⟨nx, (retC R).rt, (retC R).bk, (retC R).ct⟩ := fun nx => by
      refine step (fun ρ' => ρ' = ⟨[some (.d (.cst (.ref p))), some (.d d), some (.d (.int w)), none, none, some (.l (oddL d))], k + 1⟩) (fun K hK => ?_) fun ρ' e => ?_
      · rw [odd_sm]
        exact ⟨h18, hK _ rfl⟩
      subst e
      have hl18 := oddL_len d
      refine step (fun ρ' => ∃ more : List D, (∀ x ∈ more, Lv (cc + 1) (3 * m + 100) (q + 1) x) ∧ more.length ≤ 4 ∧ ρ' = ⟨[some (.d (.cst (.ref p))), some (.d d), some (.d (.int w)), none, none, some (.l (oddL d ++ more))], k + 1⟩) (fun K hK => ?_) fun ρ' ⟨more, m1, m2, e⟩ => ?_
      · have no : ∀ ρ', ρ' = ⟨[some (.d (.cst (.ref p))), some (.d d), some (.d (.int w)), none, none, some (.l (oddL d))], k + 1⟩ → K ρ' := fun ρ' e => hK _ ⟨[], by simp, by simp, by rw [e, List.append_nil]⟩
        generalize oddL d = L at hl18 hK no
        cases d with
        | int i =>
          have hi : i.natAbs ≤ 10 ^ 39 + cc := by have := hd.lf; simpa [lf] using this
          simp? only [D.isTy]
          refine ⟨rfl, int_small (by omega), by omega, by omega, hK _ ⟨_, fun y hy => ?_, by simp, rfl⟩⟩
          simp only [List.mem_cons, List.not_mem_nil, or_false] at hy
          rcases hy with rfl | rfl | rfl | rfl
          · exact lv_int (by omega)
          · exact lv_int (by omega)
          · exact lv_bl
          · exact lv_str (low_int i) (by have := int_digits (i := i) (by omega); omega)
        | bl b =>
          simp? only [D.isTy, zeq_g]
          refine ⟨rfl, ?_, by omega, by omega, hK _ ⟨_, fun y hy => ?_, by simp, rfl⟩⟩
          · cases b <;> decide +kernel
          simp only [List.mem_cons, List.not_mem_nil, or_false] at hy
          rcases hy with rfl | rfl | rfl | rfl
          · exact lv_int (by cases b <;> (simp [b01]; try omega))
          · exact lv_int (by cases b <;> (simp [b01]; try omega))
          · exact lv_bl
          · cases b
            · exact lv_str (by decide +kernel) (by have : (Str.ofString "False").length = 5 := by decide +kernel
                                                   simp only [Bool.false_eq_true, if_false]; omega)
            · exact lv_str (by decide +kernel) (by have : (Str.ofString "True").length = 4 := by decide +kernel
                                                   simp only [if_true]; omega)
        | _ =>
          simp? only [D.isTy]
          exact ⟨hsm.isD, no _ rfl⟩
      subst e
      refine step (fun ρ' => ∃ more : List D, (∀ x ∈ more, Lv (cc + 1) (3 * m + 100) (q + 1) x) ∧ more.length ≤ 10 ∧ ρ' = ⟨[some (.d (.cst (.ref p))), some (.d d), some (.d (.int w)), none, none, some (.l (oddL d ++ more))], k + 1⟩) (fun K hK => ?_) fun ρ' ⟨more, m1, m2, e⟩ => ?_
      · have no : ∀ ρ', ρ' = ⟨[some (.d (.cst (.ref p))), some (.d d), some (.d (.int w)), none, none, some (.l (oddL d ++ more))], k + 1⟩ → K ρ' := fun ρ' e => hK _ ⟨more, m1, by omega, e⟩
        have hL : (oddL d ++ more).length ≤ 22 := by rw [List.length_append]; omega
        have grow : ∀ more2 : List D, (∀ x ∈ more2, Lv (cc + 1) (3 * m + 100) (q + 1) x) → more2.length ≤ 6 → ∀ ρ', ρ' = ⟨[some (.d (.cst (.ref p))), some (.d d), some (.d (.int w)), none, none, some (.l ((oddL d ++ more) ++ more2))], k + 1⟩ → K ρ' := fun more2 a b ρ' e => hK _ ⟨more ++ more2, all_app m1 a, by rw [List.length_append]; omega, by rw [e, List.append_assoc]⟩
        generalize oddL d ++ more = L at hL no grow
        cases d with
        | str x =>
          have hx : ∀ a ∈ x.cps.toList, a < 128 := by
            have := hd.lf
            simp only [lf, List.all_eq_true, decide_eq_true_eq] at this
            exact this
          have hxl : x.length ≤ m := hd.bk
          have la : (Str.ofString "a").length = 1 := by decide +kernel
          have ls : (Str.ofString " ").length = 1 := by decide +kernel
          have hu := low_upper hx
          have hr := low_rep3 hx
          have lo : Low m x := ⟨hx, hxl⟩
          have l1 : Low 1 (Str.ofString "a") := ⟨by decide +kernel, by omega⟩
          have l2 : Low 1 (Str.ofString " ") := ⟨by decide +kernel, by omega⟩
          simp? only [D.isTy]
          refine ⟨rfl, by omega, by omega, by omega, by omega, ⟨by decide, by decide, ?_⟩, by omega, by omega, grow _ (fun y hy => ?_) (by simp) _ rfl⟩
          · have e3 : Int.toNat 3 = 3 := rfl
            rw [e3]; omega
          simp only [List.mem_cons, List.not_mem_nil, or_false] at hy
          rcases hy with rfl | rfl | rfl | rfl | rfl
          · exact lv_str (lo.add l1).1 (Nat.le_trans (lo.add l1).2 (by omega))
          · exact lv_str (lo.cut _ _).1 (Nat.le_trans (lo.cut _ _).2 (by omega))
          · exact lv_str hu.1 (by omega)
          · exact lv_str (lo.add l2).1 (Nat.le_trans (lo.add l2).2 (by omega))
          · exact lv_str hr.1 (by omega)
        | _ =>
          simp? only [D.isTy]
          exact ⟨hsm.isD, no _ rfl⟩
      subst e
      exact odd _ more m1 m2
    refine step (fun ρ' => ρ' = ⟨[some (.d (.cst (.ref p))), some (.d d), some (.d (.int w)), none, none, none], k + 1⟩ ∧ w ≠ 0 ∧ ∃ x xs, d = .tup (x :: xs)) (fun K hK => ?_) fun ρ' ⟨e, hw, x0, xs0, ed⟩ => ?_
    · refine step_ite (fun b ρ' => ρ' = ⟨[some (.d (.cst (.ref p))), some (.d d), some (.d (.int w)), none, none, none], k + 1⟩ ∧ (b = true ∨ w ≠ 0 ∧ ∃ x xs, d = .tup (x :: xs))) (fun K' hK' => ?_) fun b ρ' ⟨e, hb⟩ => ?_
      · cases d with
        | tup xs =>
          simp? only [D.isTy, Bool.not_true, zeq_g, wtOr, wtNot, wtv, wtCmp]
          refine ⟨hsm.isD, okEq_nil hsm.isD, ?_⟩
          rw [eq_nil _ hsm.isD]
          cases xs with
          | nil =>
            simp only [isNilT, List.getElem?_cons_zero, List.getElem?_cons_succ, List.set_cons_zero, List.set_cons_succ, List.dropLast_cons_cons, List.dropLast_singleton, List.getLast?_cons_cons, List.getLast?_singleton, List.cons_append, List.nil_append, List.append_nil, List.reverse_cons, List.reverse_nil, Option.getD_some, Option.getD_none, Option.some.injEq, Option.bind_some, exists_eq_left', exists_eq_left, exists_eq_right, exists_and_left, true_and, and_true, if_true, if_false, reduceCtorEq, reduceIte, Bool.false_eq_true, Bool.false_xor, Bool.true_xor, List.replicate_succ, List.replicate_zero, List.length_cons, List.length_nil, Nat.zero_add, Nat.reduceAdd, Nat.reduceSub, O.d.injEq, D.int.injEq, Res.d.injEq, B.l.injEq, B.d.injEq, D.bl.injEq, D.str.injEq, D.lst.injEq, D.tup.injEq, Nat.zero_le]
            exact hK' _ _ ⟨rfl, .inl rfl⟩
          | cons x xs =>
            simp only [isNilT, List.getElem?_cons_zero, List.getElem?_cons_succ, List.set_cons_zero, List.set_cons_succ, List.dropLast_cons_cons, List.dropLast_singleton, List.getLast?_cons_cons, List.getLast?_singleton, List.cons_append, List.nil_append, List.append_nil, List.reverse_cons, List.reverse_nil, Option.getD_some, Option.getD_none, Option.some.injEq, Option.bind_some, exists_eq_left', exists_eq_left, exists_eq_right, exists_and_left, true_and, and_true, if_true, if_false, reduceCtorEq, reduceIte, Bool.false_eq_true, Bool.false_xor, Bool.true_xor, List.replicate_succ, List.replicate_zero, List.length_cons, List.length_nil, Nat.zero_add, Nat.reduceAdd, Nat.reduceSub, O.d.injEq, D.int.injEq, Res.d.injEq, B.l.injEq, B.d.injEq, D.bl.injEq, D.str.injEq, D.lst.injEq, D.tup.injEq, Nat.zero_le]
            refine ⟨okEq_int _ _, hK' _ _ ⟨rfl, ?_⟩⟩
            rw [eq_int]
            by_cases hw : w = 0
            · exact .inl (decide_eq_true hw)
            · exact .inr ⟨hw, x, xs, rfl⟩
        | _ =>
          simp? only [D.isTy, Bool.not_false, zeq_g, wtOr, wtNot, wtv, wtCmp]
          exact ⟨hsm.isD, hK' _ _ ⟨rfl, .inl rfl⟩⟩
      · subst e
        cases b with
        | true => exact oddBr _
        | false =>
          rcases hb with hb | hb
          · cases hb
          · exact hK _ ⟨rfl, hb⟩
    subst e
    subst ed
    have hl := hsm.lenT
    have hit := (show Lv cc m (q - 1 + 1) (.tup (x0 :: xs0)) from hd.mono (Nat.le_refl _) (Nat.le_refl _) (by omega)).items
    have hn : 1 ≤ q := by
      have := hd.dp
      simp only [D.py, PyData.depth] at this
      omega
    obtain ⟨q2, rfl⟩ : ∃ q2, q = q2 + 1 := ⟨q - 1, by omega⟩
    rcases hB with hB | ⟨n2, en, hB⟩
    · omega
    have hq2 : q2 ≤ n2 := by omega
    generalize hg : x0 :: xs0 = xs at *
    have hpos : 0 < xs.length := by rw [← hg]; simp
    clear hg oddBr odd hodd st5
    refine step (fun ρ' => ∃ i : Int, 0 ≤ i ∧ i < xs.length ∧ ρ' = ⟨[some (.d (.cst (.ref p))), some (.d (.tup xs)), some (.d (.int w)), some (.d (.int i)), none, none], k + 2⟩) (fun K hK => ?_) fun ρ' ⟨i, i0, i1, e⟩ => ?_
    · simp? only [hF, pfDraw]
      exact ⟨⟨by omega, by omega, by omega⟩, fun i i0 i1 => hK _ ⟨i, i0, i1, rfl⟩⟩
    subst e
    obtain ⟨as, x, bs, ex, c1, c2, c3, c4, c5⟩ := split_at i0 i1
    have hit : LvL cc m q2 xs := hit.mono (Nat.le_refl _) (Nat.le_refl _) (by omega)
    have hbk : PyData.bulkAll (D.pyL as) + (x.py.bulk + 1 + PyData.bulkAll (D.pyL bs)) ≤ m := by
      have := hit.bk
      rw [ex, bulk_app] at this
      simp only [D.pyL, PyData.bulkAll] at this
      omega
    have hdp : PyData.depthAll (D.pyL as) ≤ q2 ∧ x.py.depth ≤ q2 ∧ PyData.depthAll (D.pyL bs) ≤ q2 := by
      have := hit.dp
      rw [ex, depth_app] at this
      simp only [D.pyL, PyData.depthAll] at this
      omega
    have hlf : (∀ y ∈ as, lf cc y = true) ∧ lf cc x = true ∧ ∀ y ∈ bs, lf cc y = true := by
      have := hit.lf
      rw [ex] at this
      exact ⟨fun y hy => this y (by simp [hy]), this x (by simp), fun y hy => this y (by simp [hy])⟩
    have la : LvL cc (PyData.bulkAll (D.pyL as)) q2 as := ⟨hlf.1, Nat.le_refl _, hdp.1⟩
    have lx : Lv cc x.py.bulk q2 x := ⟨hlf.2.1, Nat.le_refl _, hdp.2.1⟩
    have lb : LvL cc (PyData.bulkAll (D.pyL bs)) q2 bs := ⟨hlf.2.2, Nat.le_refl _, hdp.2.2⟩
    have hlen : as.length + 1 + bs.length = xs.length := by rw [ex]; simp; omega
    have out : ∀ ys : List D, LvL (cc + 1) (3 * m + 100) (q2 + 1) ys → Lv (cc + 1) (3 * m + 100) (q2 + 1 + 1) (.tup ys) := fun ys h => h.tup
    refine step (fun ρ' => ∃ L : List D, L = [.tup (as ++ bs), .tup ((as ++ [x]) ++ (x :: bs)), .tup xs.reverse, .lst xs] ∧ ρ' = ⟨[some (.d (.cst (.ref p))), some (.d (.tup xs)), some (.d (.int w)), some (.d (.int i)), some (.l L), none], k + 2⟩) (fun K hK => ?_) fun ρ' ⟨L, eL, e⟩ => ?_
    · simp? only [c1, c2, c3, c4]
      exact ⟨by omega, by simp; omega, by omega, hK _ ⟨_, rfl, rfl⟩⟩
    subst e
    have four : ∀ y ∈ L, Lv (cc + 1) (3 * m + 100) (q2 + 1 + 1) y := fun y hy => by
      rw [eL] at hy
      simp only [List.mem_cons, List.not_mem_nil, or_false] at hy
      rcases hy with rfl | rfl | rfl | rfl
      · exact (la.app lb).tup.mono (by omega) (by omega) (by omega)
      · exact ((la.app lx.one).app ((lx.one.app lb))).tup.mono (by omega) (by omega) (by omega)
      · exact hit.rev.tup.mono (by omega) (by omega) (by omega)
      · exact hit.lst.mono (by omega) (by omega) (by omega)
    have hL : L.length = 4 := by rw [eL]; rfl
    refine step (fun ρ' => 5 ≤ w ∧ ρ' = ⟨[some (.d (.cst (.ref p))), some (.d (.tup xs)), some (.d (.int w)), some (.d (.int i)), some (.l L), none], k + 2⟩) (fun K hK => ?_) fun ρ' ⟨hw5, e⟩ => ?_
    · simp? only []
      by_cases h5 : w < 5
      · rw [if_pos (by simpa using h5)]
        obtain ⟨y, e1, e2, _⟩ := atI_ok (xs := L) (i := w - 1) (by omega) (by rw [hL]; omega)
        exact ⟨y, e1, hR y _ (four y e2) (by omega)⟩
      · rw [if_neg (by simpa using h5)]
        exact hK _ ⟨by omega, rfl⟩
    subst e
    clear four
    simp? only [c1, c4, c5, hB, pfBent]
    refine ⟨x.py.bulk, cc, q2, hq2, lx, hc, by omega, by omega, fun d' k' hd' hk' => ⟨by omega, ?_, ?_, ?_⟩⟩
    · rw [← hlen] at hl; omega
    · rw [List.length_append, List.length_singleton]; omega
    · exact hR _ _ (out _ (((la.mono (Nat.le_succ _) (Nat.le_refl _) (Nat.le_succ _)).app hd'.one).app (lb.mono (Nat.le_succ _) (Nat.le_refl _) (Nat.le_succ _)) |>.mono (Nat.le_refl _) (by omega) (Nat.le_refl _))) (by omega)
set_option maxRecDepth 100000
set_option maxHeartbeats 4000000
def pfPart : List D → (Res → Prop) → Prop
  | [h, a, b, c, d], R => ∃ rs ds, HsD h rs ds ∧ a.isD = true ∧ Av b ∧ Av c ∧ Av d ∧ R (.d (.bl (partOk rs ds a b c d)))
  | _, _ => False
theorem isNm_str {d : D} (h : isNm d = true) : ∃ x, d = .str x ∧ nameS x = true := by
  cases d <;> first | exact ⟨_, rfl, h⟩ | cases h
theorem part_off1 {rs : List Str} {ds : List Dr} {a b c d : D} (h : isRm rs a = false) : partOk rs ds a b c d = false := by
  cases a <;> cases b <;> cases c <;> cases d <;> first | rfl | (simp only [isRm] at h; simp [partOk, h])
theorem part_off2 {rs : List Str} {ds : List Dr} {a b c d : D} (h : isNm b = false) : partOk rs ds a b c d = false := by
  cases a <;> cases b <;> cases c <;> cases d <;> first | rfl | (simp only [isNm] at h; simp [partOk, h])
theorem part_off3 {rs : List Str} {ds : List Dr} {a b c d : D} (h : isNm c = false) : partOk rs ds a b c d = false := by
  cases a <;> cases b <;> cases c <;> cases d <;> first | rfl | (simp only [isNm] at h; simp [partOk, h])
theorem isRm_strs {own : List Str} {ws : List D} (h : ws.all (isRm own) = true) : ∃ ss : List Str, ws = ss.map .str := by
  induction ws with
  | nil => exact ⟨[], rfl⟩
  | cons w ws ih =>
    rw [List.all_cons, Bool.and_eq_true] at h
    obtain ⟨x, rfl, _⟩ := isRm_str h.1
    obtain ⟨ss, rfl⟩ := ih h.2
    exact ⟨x :: ss, rfl⟩
theorem k_part (F : Fs) (hM : F.fn "is_room" = some (.pu pfRoom)) (hN : F.fn "is_name" = some (.pu pfName)) (hO : F.fn "doors_of" = some (.pu pfDoorsOf)) (hA : F.fn "are_ascending" = some (.pu pfAsc)) : Keeps F N_is_parting b_is_parting (.pu pfPart) := by
  intro ds R h
  have sz : sizeLine = 16777216 := sizeLine_eq
  match ds, h with
  | [h, a, b, c, d], ⟨rs, ds, hh0, h1, h2, h3, h4, hR⟩ =>
    have hh0' := hh0
    obtain ⟨eh, hh, hrl, hdl⟩ := hh0'
    have e0 : atI [D.tup (rs.map .str), D.tup (ds.map drD)] 0 = some (.tup (rs.map .str)) := rfl
    refine step (fun ρ' => ρ' = ⟨[some (.d h), some (.d a), some (.d b), some (.d c), some (.d d), some (.d (.tup (rs.map .str))), none, none, none, none], 0⟩) (fun K hK => ?_) fun ρ' e => ?_
    · simp? only [N_is_parting, eh, hsD]
      rw [eh, hsD] at hK
      exact hK _ rfl
    subst e
    simp? only [hM, hN, hO, pfRoom, pfName]
    refine ⟨rs, rfl, h1, ?_⟩
    cases ha : isRm rs a with
    | false =>
      rw [part_off1 ha] at hR
      simp? only [Bool.not_false]
      exact hR
    | true =>
      simp? only [Bool.not_true]
      refine ⟨h2, ?_⟩
      cases hb : isNm b with
      | false =>
        rw [part_off2 hb] at hR
        simp? only [Bool.not_false]
        exact hR
      | true =>
        simp? only [Bool.not_true]
        refine ⟨h3, ?_⟩
        cases hc : isNm c with
        | false =>
          rw [part_off3 hc] at hR
          simp? only [Bool.not_false]
          exact hR
        | true =>
          obtain ⟨r, rfl, hr⟩ := isRm_str ha
          obtain ⟨x, rfl, hx⟩ := isNm_str hb
          obtain ⟨y, rfl, hy⟩ := isNm_str hc
          simp? only [Bool.not_true]
          cases he : decide (x = y) with
          | true =>
            have : partOk rs ds (.str r) (.str x) (.str y) d = false := by cases d <;> simp [partOk, he]
            rw [this] at hR
            simp? only []
            exact hR
          | false =>
            simp? only [wtCmp]
            refine lc_filter rs .str .str (fun n => !decide (n = r)) (fun n hn acc Kc hz hK => ?_) (by omega) ?_
            · simp? only [lcStep, wtCmp]
              cases hs : decide (n = r) with
              | true => simp only [hs, Bool.not_true, List.getElem?_cons_zero, List.getElem?_cons_succ, List.set_cons_zero, List.set_cons_succ, List.dropLast_cons_cons, List.dropLast_singleton, List.getLast?_cons_cons, List.getLast?_singleton, List.cons_append, List.nil_append, List.append_nil, List.reverse_cons, List.reverse_nil, Option.getD_some, Option.getD_none, Option.some.injEq, Option.bind_some, exists_eq_left', exists_eq_left, exists_eq_right, exists_and_left, true_and, and_true, if_true, if_false, reduceCtorEq, reduceIte, Bool.false_eq_true, Bool.false_xor, Bool.true_xor, List.replicate_succ, List.replicate_zero, List.length_cons, List.length_nil, Nat.zero_add, Nat.reduceAdd, Nat.reduceSub, O.d.injEq, D.int.injEq, Res.d.injEq, B.l.injEq, B.d.injEq, D.bl.injEq, D.str.injEq, D.lst.injEq, D.tup.injEq, Nat.zero_le] at hK ⊢; exact hK
              | false => simp only [hs, Bool.not_false, List.getElem?_cons_zero, List.getElem?_cons_succ, List.set_cons_zero, List.set_cons_succ, List.dropLast_cons_cons, List.dropLast_singleton, List.getLast?_cons_cons, List.getLast?_singleton, List.cons_append, List.nil_append, List.append_nil, List.reverse_cons, List.reverse_nil, Option.getD_some, Option.getD_none, Option.some.injEq, Option.bind_some, exists_eq_left', exists_eq_left, exists_eq_right, exists_and_left, true_and, and_true, if_true, if_false, reduceCtorEq, reduceIte, Bool.false_eq_true, Bool.false_xor, Bool.true_xor, List.replicate_succ, List.replicate_zero, List.length_cons, List.length_nil, Nat.zero_add, Nat.reduceAdd, Nat.reduceSub, O.d.injEq, D.int.injEq, Res.d.injEq, B.l.injEq, B.d.injEq, D.bl.injEq, D.str.injEq, D.lst.injEq, D.tup.injEq, Nat.zero_le] at hK ⊢; exact ⟨hz, hK⟩
            · generalize ho : (rs.filter fun n => !decide (n = r)) = oth
              simp? only [wtCmp]
              refine ⟨okIn_strs rfl _, ?_⟩
              rw [inD_strs rfl]
              cases h5 : isRm oth (.str x) with
              | true =>
                have : partOk rs ds (.str r) (.str x) (.str y) d = false := by
                  simp only [isRm] at h5
                  cases d <;> simp only [partOk, ho, h5, Bool.not_true, Bool.false_and, Bool.and_false]
                rw [this] at hR
                simp? only []
                exact hR
              | false =>
                simp? only []
                refine ⟨okIn_strs rfl _, ?_⟩
                rw [inD_strs rfl]
                cases h6 : isRm oth (.str y) with
                | true =>
                  have : partOk rs ds (.str r) (.str x) (.str y) d = false := by
                    simp only [isRm] at h6
                    cases d <;> simp only [partOk, ho, h6, Bool.not_true, Bool.false_and, Bool.and_false]
                  rw [this] at hR
                  simp? only []
                  exact hR
                | false =>
                  simp? only []
                  refine ⟨h4.isD, ?_⟩
                  cases d with
                  | tup ws =>
                    simp? only [D.isTy, Bool.not_true, pfDoorsOf, hO]
                    refine ⟨rs, ds, hh0, ?_⟩
                    have hp : partOk rs ds (.str r) (.str x) (.str y) (.tup ws) = (ws.all (isRm (ownOf ds r)) && asc (strsL ws)) := by
                      simp only [isRm] at h5 h6
                      simp only [partOk, ho, h5, h6, he, decide_eq_true hr, hx, hy, Bool.not_false, Bool.true_and]
                    rw [hp] at hR
                    generalize ownOf ds r = own at hR ⊢
                    have hwl := h4.lenT
                    refine lcg_map (fun w => .bl (isRm own w)) (fun w hw acc Kc hz hK => ?_) (by omega) ?_
                    · simp? only [lcStep]
                      have wd := (h4.part hw).isD
                      refine ⟨wd, ?_⟩
                      cases w with
                      | str z =>
                        simp? only [D.isTy]
                        refine ⟨okIn_strs rfl own, hz, ?_⟩
                        rw [inD_strs rfl]; exact hK
                      | _ =>
                        simp? only [D.isTy]
                        exact ⟨hz, hK⟩
                    · simp? only []
                      refine ⟨ws.map (isRm own), by rw [bl_map], ?_⟩
                      have ea : (ws.map (isRm own)).all id = ws.all (isRm own) := by rw [List.all_map]; rfl
                      rw [ea]
                      cases h7 : ws.all (isRm own) with
                      | false =>
                        simp? only [h7, Bool.false_and] at hR ⊢
                        exact hR
                      | true =>
                        obtain ⟨ss, rfl⟩ := isRm_strs h7
                        simp? only [h7, Bool.true_and, strsL_map, hA, pfAsc] at hR ⊢
                        exact ⟨ss, .inr rfl, by simpa using hwl, hR⟩
                  | _ => exact hR
def pfNew : List D → (Res → Prop) → Prop
  | [h, n, a, b], R => ∃ rs ds, HsD h rs ds ∧ Av n ∧ a.isD = true ∧ b.isD = true ∧ R (.d (.bl (newOk rs ds n a b)))
  | _, _ => False
theorem k_new (F : Fs) (hN : F.fn "is_name" = some (.pu pfName)) (hO : F.fn "is_own_door" = some (.pu pfOwn)) (hS : F.fn "are_sides" = some (.pu pfSides)) : Keeps F N_is_new_door b_is_new_door (.pu pfNew) := by
  intro ds R h
  match ds, h with
  | [h, n, a, b], ⟨rs, ds, hh0, h1, h2, h3, hR⟩ =>
    have eh := hh0.1
    simp? only [N_is_new_door, b_is_new_door, hN, hO, hS, pfName, pfOwn]
    refine ⟨h1, ?_⟩
    simp only [newOk] at hR
    cases e1 : isNm n with
    | false =>
      simp? only [e1, Bool.false_and] at hR ⊢
      exact hR
    | true =>
      simp? only [e1, Bool.true_and] at hR ⊢
      refine ⟨rs, ds, hh0, h1.isD, ?_⟩
      cases e2 : isOwn ds n with
      | true =>
        simp? only [e2, Bool.not_true, Bool.false_and] at hR ⊢
        exact hR
      | false =>
        simp? only [e2, Bool.not_false, Bool.true_and, eh, hsD, pfSides] at hR ⊢
        exact ⟨rs, rfl, h2, h3, hR⟩
/-! ### lines -/
def tblK : List (Str × Nat × FnI) := [(sBeam, 1, .pu pfOwn), (sWent, 2, .pu pfPass), (sOpen, 1, .pu pfOwn), (sRoom, 3, .pu pfRcount), (sAll, 2, .pu pfWcount), (sJoin, 3, .pu pfJoin), (sPart, 4, .pu pfPart), (sDoor, 3, .pu pfNew), (sShut, 1, .pu pfOwn)]
theorem look_cons {w k : Str} {v : Nat × FnI} {t : List (Str × Nat × FnI)} : List.lookup w ((k, v) :: t) = if w = k then some v else List.lookup w t := by
  rw [List.lookup_cons]
  by_cases h : w = k
  · rw [if_pos h, beq_iff_eq.mpr h]
  · rw [if_neg h, beq_eq_false_iff_ne.mpr h]
section
variable {rs : List Str} {ds : List Dr} {ps : List D}
theorem ln_beam : lnOk rs ds sBeam ps = (match ps with
    | [a] => isOwn ds a
    | _ => false) := by unfold lnOk; rw [if_pos (by simp)] <;> rfl
theorem ln_open : lnOk rs ds sOpen ps = (match ps with
    | [a] => isOwn ds a
    | _ => false) := by unfold lnOk; rw [if_pos (by simp)] <;> rfl
theorem ln_shut : lnOk rs ds sShut ps = (match ps with
    | [a] => isOwn ds a
    | _ => false) := by unfold lnOk; rw [if_pos (by simp)] <;> rfl
theorem ln_went : lnOk rs ds sWent ps = (match ps with
    | [a, b] => isPass ds a b
    | _ => false) := by unfold lnOk; rw [if_neg (by decide +kernel), if_pos rfl] <;> rfl
theorem ln_room : lnOk rs ds sRoom ps = (match ps with
    | [a, b, c] => isRm rs a && bnds b c
    | _ => false) := by unfold lnOk; rw [if_neg (by decide +kernel), if_neg (by decide +kernel), if_pos rfl] <;> rfl
theorem ln_all : lnOk rs ds sAll ps = (match ps with
    | [a, b] => bnds a b
    | _ => false) := by unfold lnOk; rw [if_neg (by decide +kernel), if_neg (by decide +kernel), if_neg (by decide +kernel), if_pos rfl] <;> rfl
theorem ln_join : lnOk rs ds sJoin ps = (match ps with
    | [a, b, c] => joinL rs a b c
    | _ => false) := by unfold lnOk; rw [if_neg (by decide +kernel), if_neg (by decide +kernel), if_neg (by decide +kernel), if_neg (by decide +kernel), if_pos rfl] <;> rfl
theorem ln_part : lnOk rs ds sPart ps = (match ps with
    | [a, b, c, d] => partOk rs ds a b c d
    | _ => false) := by unfold lnOk; rw [if_neg (by decide +kernel), if_neg (by decide +kernel), if_neg (by decide +kernel), if_neg (by decide +kernel), if_neg (by decide +kernel), if_pos rfl] <;> rfl
theorem ln_door : lnOk rs ds sDoor ps = (match ps with
    | [a, b, c] => newOk rs ds a b c
    | _ => false) := by unfold lnOk; rw [if_neg (by decide +kernel), if_neg (by decide +kernel), if_neg (by decide +kernel), if_neg (by decide +kernel), if_neg (by decide +kernel), if_neg (by decide +kernel), if_pos rfl] <;> rfl
end
theorem look_none {rs : List Str} {ds : List Dr} {ps : List D} {w : Str} (h : tblK.lookup w = none) : lnOk rs ds w ps = false := by
  simp only [tblK, look_cons, List.lookup_nil] at h
  unfold lnOk
  repeat' split at h
  all_goals first | (cases h; done) | skip
  simp_all
theorem isLn_w {rs : List Str} {ds : List Dr} {ps : List D} {w : Str} : isLn rs ds (.tup (.str w :: ps)) = lnOk rs ds w ps := rfl
def pfLine : List D → (Res → Prop) → Prop
  | [h, d], R => ∃ rs ds, HsD h rs ds ∧ Sv d ∧ R (.d (.bl (isLn rs ds d)))
  | _, _ => False
theorem k_line (F : Fs) (hK : F.kd "LINE_CHECKS" = some tblK) : Keeps F N_is_line b_is_line (.pu pfLine) := by
  intro ds R h
  have sz : sizeLine = 16777216 := sizeLine_eq
  match ds, h with
  | [h, d], ⟨rs, ds, hh0, h1, hR⟩ =>
    have hav := h1.av
    have hd := hav.isD
    simp? only [N_is_line, b_is_line, hK]
    refine ⟨hd, ?_⟩
    cases d with
    | tup xs =>
      simp? only [D.isTy, Bool.not_true, zeq_g]
      refine ⟨okEq_nil hd, ?_⟩
      rw [eq_nil _ hd]
      cases xs with
      | nil =>
        simp? only [isNilT]
        exact hR
      | cons x ps =>
        have hxd := (hav.part (x := x) (by simp)).isD
        have hpl := hav.lenT
        simp? only [isNilT]
        refine ⟨hxd, ?_⟩
        cases x with
        | str w =>
          simp? only [D.isTy, Bool.not_true]
          rw [isLn_w] at hR
          cases hk : tblK.lookup w with
          | none =>
            rw [look_none hk] at hR
            simp? only [Option.isSome_none, Bool.true_xor, Bool.not_false]
            exact hR
          | some mi =>
            obtain ⟨m, i⟩ := mi
            simp? only [Option.isSome_some, Bool.true_xor, Bool.not_true]
            have hl4 : ps.length < 16384 := by have := h1.lenT; simp only [List.length_cons] at this; omega
            refine ⟨_, _, rfl, hl4, ?_⟩
            refine ⟨w, ps, h, m, i, rfl, rfl, rfl, by simp, by simp, hk, ?_⟩
            have part : ∀ y ∈ ps, Av y := fun y hy => hav.part (List.mem_cons_of_mem _ hy)
            have fin : ∀ (pf : List D → (Res → Prop) → Prop) (n : Nat), (ps.length = n → ∀ Q : Res → Prop, Q (.d (.bl (lnOk rs ds w ps))) → pf (h :: ps) Q) → (ps.length ≠ n → lnOk rs ds w ps = false) →
                if ps.length = n then ∃ pf', FnI.pu pf = .pu pf' ∧ ∀ f, pf' (h :: ps) fun z => (retC fun r _ => R r).rt z ((((⟨[some (.d h), some (.d (.tup (.str w :: ps))), some (.d (.str w)), some (.l ps), none, none], 0⟩ : S).set 4 (.d (.int (n : Int)))).set 5 (.d (.cst (.ref f)))).fz 3) else ∀ ρ', (retC fun r _ => R r).rt (.d (.bl false)) ρ' := fun pf n h1 h2 => by
              by_cases hn : ps.length = n
              · rw [if_pos hn]
                exact ⟨pf, rfl, fun f => h1 hn _ ⟨_, rfl, hR⟩⟩
              · rw [if_neg hn]
                rw [h2 hn] at hR
                exact fun ρ' => ⟨_, rfl, hR⟩
            simp only [tblK, look_cons, List.lookup_nil] at hk
            split at hk
            · rename_i e; subst e
              cases hk
              refine fin _ _ (fun hn Q q => ?_) fun hn => ?_
              · match ps, hn with
                | [a], _ => exact ⟨rs, ds, hh0, (part a (by simp)).isD, by rw [ln_beam] at q; exact q⟩
              · rw [ln_beam]
                match ps, hn with
                | [], _ => rfl
                | [a], hn => exact absurd rfl hn
                | _ :: _ :: _, _ => rfl
            split at hk
            · rename_i e; subst e
              cases hk
              refine fin _ _ (fun hn Q q => ?_) fun hn => ?_
              · match ps, hn with
                | [a, b], _ => exact ⟨rs, ds, hh0, (part a (by simp)).isD, (part b (by simp)).isD, by rw [ln_went] at q; exact q⟩
              · rw [ln_went]
                match ps, hn with
                | [], _ => rfl
                | [_], _ => rfl
                | [_, _], hn => exact absurd rfl hn
                | _ :: _ :: _ :: _, _ => rfl
            split at hk
            · rename_i e; subst e
              cases hk
              refine fin _ _ (fun hn Q q => ?_) fun hn => ?_
              · match ps, hn with
                | [a], _ => exact ⟨rs, ds, hh0, (part a (by simp)).isD, by rw [ln_open] at q; exact q⟩
              · rw [ln_open]
                match ps, hn with
                | [], _ => rfl
                | [a], hn => exact absurd rfl hn
                | _ :: _ :: _, _ => rfl
            split at hk
            · rename_i e; subst e
              cases hk
              refine fin _ _ (fun hn Q q => ?_) fun hn => ?_
              · match ps, hn with
                | [a, b, c], _ => exact ⟨rs, ds, hh0, (part a (by simp)).isD, (part b (by simp)).isD, (part c (by simp)).isD, by rw [ln_room] at q; exact q⟩
              · rw [ln_room]
                match ps, hn with
                | [], _ => rfl
                | [_], _ => rfl
                | [_, _], _ => rfl
                | [_, _, _], hn => exact absurd rfl hn
                | _ :: _ :: _ :: _ :: _, _ => rfl
            split at hk
            · rename_i e; subst e
              cases hk
              refine fin _ _ (fun hn Q q => ?_) fun hn => ?_
              · match ps, hn with
                | [a, b], _ => exact ⟨(part a (by simp)).isD, (part b (by simp)).isD, by rw [ln_all] at q; exact q⟩
              · rw [ln_all]
                match ps, hn with
                | [], _ => rfl
                | [_], _ => rfl
                | [_, _], hn => exact absurd rfl hn
                | _ :: _ :: _ :: _, _ => rfl
            split at hk
            · rename_i e; subst e
              cases hk
              refine fin _ _ (fun hn Q q => ?_) fun hn => ?_
              · match ps, hn with
                | [a, b, c], _ => exact ⟨rs, ds, hh0, (part a (by simp)).isD, (part b (by simp)).isD, part c (by simp), by rw [ln_join] at q; exact q⟩
              · rw [ln_join]
                match ps, hn with
                | [], _ => rfl
                | [_], _ => rfl
                | [_, _], _ => rfl
                | [_, _, _], hn => exact absurd rfl hn
                | _ :: _ :: _ :: _ :: _, _ => rfl
            split at hk
            · rename_i e; subst e
              cases hk
              refine fin _ _ (fun hn Q q => ?_) fun hn => ?_
              · match ps, hn with
                | [a, b, c, d], _ => exact ⟨rs, ds, hh0, (part a (by simp)).isD, part b (by simp), part c (by simp), part d (by simp), by rw [ln_part] at q; exact q⟩
              · rw [ln_part]
                match ps, hn with
                | [], _ => rfl
                | [_], _ => rfl
                | [_, _], _ => rfl
                | [_, _, _], _ => rfl
                | [_, _, _, _], hn => exact absurd rfl hn
                | _ :: _ :: _ :: _ :: _ :: _, _ => rfl
            split at hk
            · rename_i e; subst e
              cases hk
              refine fin _ _ (fun hn Q q => ?_) fun hn => ?_
              · match ps, hn with
                | [a, b, c], _ => exact ⟨rs, ds, hh0, part a (by simp), (part b (by simp)).isD, (part c (by simp)).isD, by rw [ln_door] at q; exact q⟩
              · rw [ln_door]
                match ps, hn with
                | [], _ => rfl
                | [_], _ => rfl
                | [_, _], _ => rfl
                | [_, _, _], hn => exact absurd rfl hn
                | _ :: _ :: _ :: _ :: _, _ => rfl
            split at hk
            · rename_i e; subst e
              cases hk
              refine fin _ _ (fun hn Q q => ?_) fun hn => ?_
              · match ps, hn with
                | [a], _ => exact ⟨rs, ds, hh0, (part a (by simp)).isD, by rw [ln_shut] at q; exact q⟩
              · rw [ln_shut]
                match ps, hn with
                | [], _ => rfl
                | [a], hn => exact absurd rfl hn
                | _ :: _ :: _, _ => rfl
            cases hk
        | _ => exact hR
    | _ => exact hR
set_option maxRecDepth 100000
set_option maxHeartbeats 4000000
mutual
/-- each dict is empty -/
def em : PyData → Bool
  | .list xs => emA xs
  | .tuple xs => emA xs
  | .dict xs => xs.isEmpty
  | _ => true
def emA : List PyData → Bool
  | [] => true
  | x :: xs => em x && emA xs
end
mutual
theorem em_sf : ∀ x y : PyData, em x = true → em y = true → sf x y = true
  | .list xs, .list ys, h, g => by
    rw [sf, emA_sf xs ys (by simpa [em] using h) (by simpa [em] using g), Bool.or_true]
  | .tuple xs, .tuple ys, h, g => by
    rw [sf]
    exact emA_sf xs ys (by simpa [em] using h) (by simpa [em] using g)
  | .dict xs, .dict ys, h, g => by
    rw [sf]
    simp only [em] at h g
    rw [h, g]; rfl
  | .none, _, _, _ => by simp [sf]
  | .bool _, _, _, _ => by simp [sf]
  | .int _, _, _, _ => by simp [sf]
  | .str _, _, _, _ => by simp [sf]
  | .list _, .none, _, _ => by simp [sf]
  | .list _, .bool _, _, _ => by simp [sf]
  | .list _, .int _, _, _ => by simp [sf]
  | .list _, .str _, _, _ => by simp [sf]
  | .list _, .tuple _, _, _ => by simp [sf]
  | .list _, .dict _, _, _ => by simp [sf]
  | .tuple _, .none, _, _ => by simp [sf]
  | .tuple _, .bool _, _, _ => by simp [sf]
  | .tuple _, .int _, _, _ => by simp [sf]
  | .tuple _, .str _, _, _ => by simp [sf]
  | .tuple _, .list _, _, _ => by simp [sf]
  | .tuple _, .dict _, _, _ => by simp [sf]
  | .dict _, .none, _, _ => by simp [sf]
  | .dict _, .bool _, _, _ => by simp [sf]
  | .dict _, .int _, _, _ => by simp [sf]
  | .dict _, .str _, _, _ => by simp [sf]
  | .dict _, .list _, _, _ => by simp [sf]
  | .dict _, .tuple _, _, _ => by simp [sf]
theorem emA_sf : ∀ xs ys : List PyData, emA xs = true → emA ys = true → sfA xs ys = true
  | [], _, _, _ => by simp [sfA]
  | _ :: _, [], _, _ => by simp [sfA]
  | x :: xs, y :: ys, h, g => by
    simp only [emA, Bool.and_eq_true] at h g
    rw [sfA, em_sf x y h.1 g.1, emA_sf xs ys h.2 g.2]; rfl
end
theorem em_part : ∀ {xs : List D} {x : D}, x ∈ xs → emA (D.pyL xs) = true → em x.py = true
  | y :: ys, x, h, e => by
    simp only [D.pyL, emA, Bool.and_eq_true] at e
    rcases List.mem_cons.mp h with rfl | h
    · exact e.1
    · exact em_part h e.2
def Tv (d : D) : Prop := Sv d ∧ em d.py = true
theorem Tv.part {xs : List D} {x : D} (h : Tv (.tup xs)) (hx : x ∈ xs) : Tv x := ⟨h.1.part hx, em_part hx (by have := h.2; simpa [D.py, em] using this)⟩
theorem Tv.eq {x y : D} (h : Tv x) (g : Tv y) : okEq x y = true := by
  have h1 := h.1.dp
  simp only [okEq, h.1.av.isD, g.1.av.isD, em_sf _ _ h.2 g.2, Bool.true_and, Bool.and_self, decide_eq_true_eq]
  have : min x.py.depth y.py.depth ≤ x.py.depth := Nat.min_le_left _ _
  omega
theorem bnds_iff {a b : D} (h : isMst a = true) (g : isMst b = true) : bnds a b = (match a, b with
    | .int _, .non => true
    | .int i, .int j => decide (i ≤ j)
    | _, _ => false) := by
  cases a <;> cases b <;> simp [isMst, isCnt] at h g <;> simp [bnds, h, g]
theorem bnds_off {a b : D} (h : isMst a = false ∨ isMst b = false) : bnds a b = false := by
  cases a with
  | int i =>
    cases b with
    | non =>
      rcases h with h | h
      · simpa [isMst, isCnt, bnds] using h
      · cases h
    | int j =>
      rcases h with h | h
      · have : ¬ 0 ≤ i := by simpa [isMst, isCnt] using h
        simp [bnds, this]
      · have : ¬ 0 ≤ j := by simpa [isMst, isCnt] using h
        simp only [bnds, Bool.and_eq_false_iff, decide_eq_false_iff_not]
        omega
    | _ => rfl
  | _ => rfl
theorem k_lbnds (F : Fs) : Keeps F N_law_are_bounds b_law_are_bounds (.pu pfBnds) := by
  intro ds R h
  match ds, h with
  | [a, b], ⟨h1, h2, hR⟩ =>
    have one : ∀ (x : D) (c : C), x.isD = true → (isMst x = true → c.nx ⟨[some (.d a), some (.d b), some (.d x)], 0⟩) → (isMst x = false → c.rt (.d (.bl false)) ⟨[some (.d a), some (.d b), some (.d x)], 0⟩) →
        IS.sms F none [.ite (.and [.cmp .IsNot (.var 2) (.non), .or [.not (.isi .int (.var 2)), .isi .bool (.var 2), .cmp .Lt (.var 2) (.int 0)]]) [.ret (.bl false)] []] ⟨[some (.d a), some (.d b), some (.d x)], 0⟩ c := fun x c hx k1 k2 => by
      simp? only [wtCmp, wtNot, wtv, wtOr, wtAnd]
      cases x with
      | cst w => cases hx
      | non =>
        simp only [D.isNon, List.getElem?_cons_zero, List.getElem?_cons_succ, List.set_cons_zero, List.set_cons_succ, List.dropLast_cons_cons, List.dropLast_singleton, List.getLast?_cons_cons, List.getLast?_singleton, List.cons_append, List.nil_append, List.append_nil, List.reverse_cons, List.reverse_nil, Option.getD_some, Option.getD_none, Option.some.injEq, Option.bind_some, exists_eq_left', exists_eq_left, exists_eq_right, exists_and_left, true_and, and_true, if_true, if_false, reduceCtorEq, reduceIte, Bool.false_eq_true, Bool.false_xor, Bool.true_xor, List.replicate_succ, List.replicate_zero, List.length_cons, List.length_nil, Nat.zero_add, Nat.reduceAdd, Nat.reduceSub, O.d.injEq, D.int.injEq, Res.d.injEq, B.l.injEq, B.d.injEq, D.bl.injEq, D.str.injEq, D.lst.injEq, D.tup.injEq, Nat.zero_le, Bool.not_true, Bool.true_xor]
        exact k1 rfl
      | int i =>
        simp? only [D.isNon, D.isTy, Bool.not_true, Bool.not_false, Bool.true_xor]
        refine ⟨rfl, rfl, ?_⟩
        by_cases hi : i < 0
        · rw [if_pos (by simpa using hi)]
          exact k2 (by simp [isMst, isCnt]; omega)
        · rw [if_neg (by simpa using hi)]
          exact k1 (by simp [isMst, isCnt]; omega)
      | bl i =>
        simp? only [D.isNon, D.isTy, Bool.not_true, Bool.not_false, Bool.true_xor]
        exact ⟨rfl, rfl, k2 rfl⟩
      | _ =>
        simp? only [D.isNon, D.isTy, Bool.not_true, Bool.not_false, Bool.true_xor]
        exact ⟨hx, k2 rfl⟩
    have off : isMst a = false ∨ isMst b = false → ∀ k, (retC fun r _ => R r).rt (.d (.bl false)) k := fun h k => ⟨_, rfl, by rw [bnds_off h] at hR; exact hR⟩
    have e : b_law_are_bounds = [.for_ (.nm 2) 0 [.tup [.var 0, .var 1]] [.ite (.and [.cmp .IsNot (.var 2) (.non), .or [.not (.isi .int (.var 2)), .isi .bool (.var 2), .cmp .Lt (.var 2) (.int 0)]]) [.ret (.bl false)] []], .ret (.and [.cmp .IsNot (.var 0) (.non), .or [.cmp .Is (.var 1) (.non), .cmp .LtE (.var 0) (.var 1)]])] := rfl
    rw [e]
    refine step (fun ρ' => isMst a = true ∧ isMst b = true ∧ ρ' = ⟨[some (.d a), some (.d b), some (.d b)], 0⟩) (fun K hK => ?_) fun ρ' ⟨ma, mb, e⟩ => ?_
    · generalize hw : IS.sms F none [.ite (.and [.cmp .IsNot (.var 2) (.non), .or [.not (.isi .int (.var 2)), .isi .bool (.var 2), .cmp .Lt (.var 2) (.int 0)]]) [.ret (.bl false)] []] = W at one
      simp only [IS.sm, hw]
      simp? only [N_law_are_bounds, forGo]
      refine ⟨by rw [sizeLine_eq]; omega, ?_⟩
      exact one a _ h1 (fun ma => one b _ h2 (fun mb => hK _ ⟨ma, mb, rfl⟩) fun mb => off (.inr mb) _) fun ma => off (.inl ma) _
    · subst e
      rw [bnds_iff ma mb] at hR
      cases a with
      | cst w => cases h1
      | non =>
        simp? only [D.isNon, Bool.not_true, Bool.true_xor]
        exact hR
      | int i =>
        simp? only [D.isNon, Bool.not_false, Bool.true_xor]
        cases b with
        | non =>
          simp? only [D.isNon] at hR ⊢
          exact hR
        | int j =>
          simp? only [D.isNon] at hR ⊢
          exact hR
        | _ => cases mb
      | _ => cases ma
set_option maxRecDepth 100000
set_option maxHeartbeats 4000000
def bJ : List IS := [.ite (.or [.cmp .Eq (.ix (.var 1) (.int 1)) (.ix (.var 1) (.int 2)), .not (.call "_law_is_one_of" [.ix (.var 1) (.int 1), .var 2]), .not (.call "_law_is_one_of" [.ix (.var 1) (.int 2), .var 2])]) [.ret (.bl false)] [], .frz 2, .ret (.and [.call "_law_is_name" [.ix (.var 1) (.int 3)], .cmp .NotIn (.ix (.var 1) (.int 3)) (.lc (.var 6) (.nm 6) 0 [.var 2] [.cmp .NotIn (.var 6) (.sl (.var 1) (some (.int 1)) (some (.int 3)))] [("_law_room", 6)])])]
def bP1 : List IS := [.frz 2, .unp (.tup [.nm 4, .nm 5]) (.tup [.lc (.var 6) (.nm 6) 0 [.var 2] [.cmp .NotEq (.var 6) (.ix (.var 1) (.int 1))] [("_law_room", 6)], .lc (.ix (.var 7) (.int 0)) (.nm 7) 0 [.ix (.var 0) (.int 1)] [.cmp .In (.ix (.var 1) (.int 1)) (.sl (.var 7) (some (.int 1)) none)] [("_law_door", 7)]])]
def bP2 : List IS := [.ite (.or [.not (.call "_law_is_one_of" [.ix (.var 1) (.int 1), .var 2]), .cmp .Eq (.ix (.var 1) (.int 2)) (.ix (.var 1) (.int 3)), .not (.isi .tuple (.ix (.var 1) (.int 4)))]) [.ret (.bl false)] [], .ite (.cmp .NotEq (.lc (.var 8) (.nm 8) 0 [.sl (.var 1) (some (.int 2)) (some (.int 4))] [.or [.not (.call "_law_is_name" [.var 8]), .cmp .In (.var 8) (.var 4)]] [("_law_half", 8)]) (.lst [])) [.ret (.bl false)] [], .frz 5, .ret (.and [.cmp .Eq (.lc (.var 7) (.nm 7) 0 [.ix (.var 1) (.int 4)] [.not (.call "_law_is_one_of" [.var 7, .var 5])] [("_law_door", 7)]) (.lst []), .cmp .Eq (.fn .list [.ix (.var 1) (.int 4)]) (.sset (.ix (.var 1) (.int 4)))])]
def bD : List IS := [.ite (.or [.cmp .NotEq (.ix (.var 1) (.int 0)) (.str "door"), .cmp .NotEq (.fn .len [.var 1]) (.int 4), .not (.call "_law_is_name" [.ix (.var 1) (.int 1)]), .cmp .In (.ix (.var 1) (.int 1)) (.var 3)]) [.ret (.bl false)] [], .ret (.and [.call "_law_is_one_of" [.ix (.var 1) (.int 2), .var 2], .or [.cmp .Is (.ix (.var 1) (.int 3)) (.non), .and [.call "_law_is_one_of" [.ix (.var 1) (.int 3), .var 2], .cmp .Lt (.ix (.var 1) (.int 2)) (.ix (.var 1) (.int 3))]]])]
theorem fence_eq : b_law_is_fence_line = .par [2, 3] [.fn .list [.ix (.var 0) (.int 0)], .call "_law_sides" [.var 0]] :: .ite (.and [.cmp .Eq (.ix (.var 1) (.int 0)) (.str "joined"), .cmp .Eq (.fn .len [.var 1]) (.int 4)]) bJ [] :: .ite (.and [.cmp .Eq (.ix (.var 1) (.int 0)) (.str "parted"), .cmp .Eq (.fn .len [.var 1]) (.int 5)]) (bP1 ++ bP2) [] :: bD := rfl
theorem part_off4 {rs : List Str} {ds : List Dr} {a b c d : D} (h : d.isTy .tuple = false) : partOk rs ds a b c d = false := by
  unfold partOk
  split
  · cases h
  · rfl
def stF (h it : D) (rs : List Str) (ds : List Dr) : S := ⟨[some (.d h), some (.d it), some (.l (rs.map .str)), some (.m (drKs ds) (drVs ds)), none, none, none, none, none], 0⟩
section
variable (F : Fs) (hO : F.fn "_law_is_one_of" = some (.pu pfOneOf)) (hN : F.fn "_law_is_name" = some (.pu pfName)) {R : Res → Prop} {nx bk ct : S → Prop} {h : D} {rs : List Str} {ds : List Dr} {w : Str}
include hO hN
theorem fence_join {a b c : D} (hrl : rs.length ≤ 1000) (ha : Tv a) (hb : Tv b) (hc : Tv c) (hR : R (.d (.bl (joinL rs a b c)))) : IS.sms F none bJ (stF h (.tup [.str w, a, b, c]) rs ds) ⟨nx, (retC fun r _ => R r).rt, bk, ct⟩ := by
  have sz : sizeLine = 16777216 := sizeLine_eq
  have e1 : atI [D.str w, a, b, c] 1 = some a := rfl
  have e2 : atI [D.str w, a, b, c] 2 = some b := rfl
  have e3 : atI [D.str w, a, b, c] 3 = some c := rfl
  have e4 : cutD [D.str w, a, b, c] (some 1) (some 3) = [a, b] := rfl
  simp? only [bJ, stF, hO, hN, pfOneOf, pfName, wtCmp, zeq_g, e1, e2, e3, e4]
  refine ⟨Tv.eq ha hb, ?_⟩
  cases hab : a.eq b with
  | true =>
    have : joinL rs a b c = false := by
      cases a <;> cases b <;> first | rfl | skip
      rw [eq_str] at hab
      simp only [joinL, hab, Bool.not_true, Bool.and_false, Bool.false_and]
    rw [this] at hR
    simp? only []
    exact hR
  | false =>
    simp? only []
    refine ⟨rs, rfl, ha.1.av.isD, ?_⟩
    cases h1 : isRm rs a with
    | false =>
      rw [join_off1 h1] at hR
      simp? only [Bool.not_false]
      exact hR
    | true =>
      simp? only [Bool.not_true]
      refine ⟨rs, rfl, hb.1.av.isD, ?_⟩
      cases h2 : isRm rs b with
      | false =>
        rw [join_off2 h2] at hR
        simp? only [Bool.not_false]
        exact hR
      | true =>
        obtain ⟨x, rfl, hx⟩ := isRm_str h1
        obtain ⟨y, rfl, hy⟩ := isRm_str h2
        rw [eq_str] at hab
        simp only [joinL, decide_eq_true hx, decide_eq_true hy, hab, Bool.true_and, Bool.not_false] at hR
        simp? only [Bool.not_true]
        refine ⟨hc.1.av, ?_⟩
        cases hn : isNm c with
        | false =>
          simp? only [hn, Bool.false_and] at hR ⊢
          exact hR
        | true =>
          simp? only [hn, Bool.true_and] at hR ⊢
          refine lc_filter rs .str .str (fun r => !isSide (x, some y) (.str r)) (fun r hr acc Kc hz hK => ?_) (by omega) ?_
          · simp? only [lcStep, wtCmp, e4, inD_two (x := .str r) rfl]
            refine ⟨okIn_two rfl x y, ?_⟩
            cases hs : isSide (x, some y) (.str r) with
            | true => simp only [hs, Bool.not_true, List.getElem?_cons_zero, List.getElem?_cons_succ, List.set_cons_zero, List.set_cons_succ, List.dropLast_cons_cons, List.dropLast_singleton, List.getLast?_cons_cons, List.getLast?_singleton, List.cons_append, List.nil_append, List.append_nil, List.reverse_cons, List.reverse_nil, Option.getD_some, Option.getD_none, Option.some.injEq, Option.bind_some, exists_eq_left', exists_eq_left, exists_eq_right, exists_and_left, true_and, and_true, if_true, if_false, reduceCtorEq, reduceIte, Bool.false_eq_true, Bool.false_xor, Bool.true_xor, List.replicate_succ, List.replicate_zero, List.length_cons, List.length_nil, Nat.zero_add, Nat.reduceAdd, Nat.reduceSub, O.d.injEq, D.int.injEq, Res.d.injEq, B.l.injEq, B.d.injEq, D.bl.injEq, D.str.injEq, D.lst.injEq, D.tup.injEq, Nat.zero_le] at hK ⊢; exact hK
            | false => simp only [hs, Bool.not_false, List.getElem?_cons_zero, List.getElem?_cons_succ, List.set_cons_zero, List.set_cons_succ, List.dropLast_cons_cons, List.dropLast_singleton, List.getLast?_cons_cons, List.getLast?_singleton, List.cons_append, List.nil_append, List.append_nil, List.reverse_cons, List.reverse_nil, Option.getD_some, Option.getD_none, Option.some.injEq, Option.bind_some, exists_eq_left', exists_eq_left, exists_eq_right, exists_and_left, true_and, and_true, if_true, if_false, reduceCtorEq, reduceIte, Bool.false_eq_true, Bool.false_xor, Bool.true_xor, List.replicate_succ, List.replicate_zero, List.length_cons, List.length_nil, Nat.zero_add, Nat.reduceAdd, Nat.reduceSub, O.d.injEq, D.int.injEq, Res.d.injEq, B.l.injEq, B.d.injEq, D.bl.injEq, D.str.injEq, D.lst.injEq, D.tup.injEq, Nat.zero_le] at hK ⊢; exact ⟨hz, hK⟩
          · simp? only []
            rw [filt_two]
            exact ⟨okIn_strs hc.1.av.isD _, by rw [inD_strs hc.1.av.isD]; exact hR⟩
theorem fence_part {a b c d : D} (hrl : rs.length ≤ 1000) (hdl : ds.length ≤ 1000) (hh : h = hsD rs ds) (ha : Tv a) (hb : Tv b) (hc : Tv c) (hd : Tv d) (hR : R (.d (.bl (partOk rs ds a b c d)))) : IS.sms F none (bP1 ++ bP2) (stF h (.tup [.str w, a, b, c, d]) rs ds) ⟨nx, (retC fun r _ => R r).rt, bk, ct⟩ := by
  have sz : sizeLine = 16777216 := sizeLine_eq
  have e1 : atI [D.str w, a, b, c, d] 1 = some a := rfl
  have e2 : atI [D.str w, a, b, c, d] 2 = some b := rfl
  have e3 : atI [D.str w, a, b, c, d] 3 = some c := rfl
  have e4 : atI [D.str w, a, b, c, d] 4 = some d := rfl
  have e5 : cutD [D.str w, a, b, c, d] (some 2) (some 4) = [b, c] := rfl
  have ad := ha.1.av.isD
  refine step (fun ρ' => ρ' = ⟨[some (.d h), some (.d (.tup [.str w, a, b, c, d])), some (.d (.lst (rs.map .str))), some (.m (drKs ds) (drVs ds)), none, none, none, none, none], 0⟩) (fun K hK => ?_) fun ρ' e => ?_
  · simp? only [stF]
    exact hK _ rfl
  subst e
  refine step (fun ρ' => ρ' = ⟨[some (.d h), some (.d (.tup [.str w, a, b, c, d])), some (.d (.lst (rs.map .str))), some (.m (drKs ds) (drVs ds)), some (.d (.lst ((rs.filter fun n => !(D.str n).eq a).map .str))), some (.d (.lst ((ds.filter fun e => isSide e.2 a).map fun e => .str e.1))), none, none, none], 0⟩) (fun K hK => ?_) fun ρ' e => ?_
  · subst hh
    simp? only [hsD]
    refine lc_filter rs .str .str (fun n => !(D.str n).eq a) (fun n hn acc Kc hz hK => ?_) (by omega) ?_
    · simp? only [lcStep, wtCmp, zne_g, e1]
      refine ⟨okNe_strD n ad, ?_⟩
      cases hs : (D.str n).eq a with
      | true => simp only [hs, Bool.not_true, List.getElem?_cons_zero, List.getElem?_cons_succ, List.set_cons_zero, List.set_cons_succ, List.dropLast_cons_cons, List.dropLast_singleton, List.getLast?_cons_cons, List.getLast?_singleton, List.cons_append, List.nil_append, List.append_nil, List.reverse_cons, List.reverse_nil, Option.getD_some, Option.getD_none, Option.some.injEq, Option.bind_some, exists_eq_left', exists_eq_left, exists_eq_right, exists_and_left, true_and, and_true, if_true, if_false, reduceCtorEq, reduceIte, Bool.false_eq_true, Bool.false_xor, Bool.true_xor, List.replicate_succ, List.replicate_zero, List.length_cons, List.length_nil, Nat.zero_add, Nat.reduceAdd, Nat.reduceSub, O.d.injEq, D.int.injEq, Res.d.injEq, B.l.injEq, B.d.injEq, D.bl.injEq, D.str.injEq, D.lst.injEq, D.tup.injEq, Nat.zero_le] at hK ⊢; exact hK
      | false => simp only [hs, Bool.not_false, List.getElem?_cons_zero, List.getElem?_cons_succ, List.set_cons_zero, List.set_cons_succ, List.dropLast_cons_cons, List.dropLast_singleton, List.getLast?_cons_cons, List.getLast?_singleton, List.cons_append, List.nil_append, List.append_nil, List.reverse_cons, List.reverse_nil, Option.getD_some, Option.getD_none, Option.some.injEq, Option.bind_some, exists_eq_left', exists_eq_left, exists_eq_right, exists_and_left, true_and, and_true, if_true, if_false, reduceCtorEq, reduceIte, Bool.false_eq_true, Bool.false_xor, Bool.true_xor, List.replicate_succ, List.replicate_zero, List.length_cons, List.length_nil, Nat.zero_add, Nat.reduceAdd, Nat.reduceSub, O.d.injEq, D.int.injEq, Res.d.injEq, B.l.injEq, B.d.injEq, D.bl.injEq, D.str.injEq, D.lst.injEq, D.tup.injEq, Nat.zero_le] at hK ⊢; exact ⟨hz, hK⟩
    · simp? only []
      refine lc_filter ds drD (fun e => .str e.1) (fun e => isSide e.2 a) (fun e he acc Kc hz hK => ?_) (by omega) ?_
      · have e6 : cutD [D.str e.1, D.str e.2.1, sideD e.2.2] (some 1) none = [D.str e.2.1, sideD e.2.2] := rfl
        simp? only [lcStep, wtCmp, drD, e1, e6, inD_sd ad]
        refine ⟨okIn_sd ad _ _, ?_⟩
        cases hs : isSide e.2 a with
        | true => simp only [hs, List.getElem?_cons_zero, List.getElem?_cons_succ, List.set_cons_zero, List.set_cons_succ, List.dropLast_cons_cons, List.dropLast_singleton, List.getLast?_cons_cons, List.getLast?_singleton, List.cons_append, List.nil_append, List.append_nil, List.reverse_cons, List.reverse_nil, Option.getD_some, Option.getD_none, Option.some.injEq, Option.bind_some, exists_eq_left', exists_eq_left, exists_eq_right, exists_and_left, true_and, and_true, if_true, if_false, reduceCtorEq, reduceIte, Bool.false_eq_true, Bool.false_xor, Bool.true_xor, List.replicate_succ, List.replicate_zero, List.length_cons, List.length_nil, Nat.zero_add, Nat.reduceAdd, Nat.reduceSub, O.d.injEq, D.int.injEq, Res.d.injEq, B.l.injEq, B.d.injEq, D.bl.injEq, D.str.injEq, D.lst.injEq, D.tup.injEq, Nat.zero_le] at hK ⊢; exact ⟨hz, hK⟩
        | false => simp only [hs, List.getElem?_cons_zero, List.getElem?_cons_succ, List.set_cons_zero, List.set_cons_succ, List.dropLast_cons_cons, List.dropLast_singleton, List.getLast?_cons_cons, List.getLast?_singleton, List.cons_append, List.nil_append, List.append_nil, List.reverse_cons, List.reverse_nil, Option.getD_some, Option.getD_none, Option.some.injEq, Option.bind_some, exists_eq_left', exists_eq_left, exists_eq_right, exists_and_left, true_and, and_true, if_true, if_false, reduceCtorEq, reduceIte, Bool.false_eq_true, Bool.false_xor, Bool.true_xor, List.replicate_succ, List.replicate_zero, List.length_cons, List.length_nil, Nat.zero_add, Nat.reduceAdd, Nat.reduceSub, O.d.injEq, D.int.injEq, Res.d.injEq, B.l.injEq, B.d.injEq, D.bl.injEq, D.str.injEq, D.lst.injEq, D.tup.injEq, Nat.zero_le] at hK ⊢; exact hK
      · simp? only []
        exact ⟨by omega, hK _ rfl⟩
  subst e
  show IS.sms F none bP2 _ _
  unfold bP2
  simp? only [hO, hN, pfOneOf, pfName, wtCmp, wtNot, wtv, wtOr, zeq_g, e1, e2, e3, e4, e5]
  refine ⟨rs, rfl, ad, ?_⟩
  cases h1 : isRm rs a with
  | false =>
    rw [part_off1 h1] at hR
    simp? only [Bool.not_false]
    exact hR
  | true =>
    obtain ⟨r, rfl, hr⟩ := isRm_str h1
    simp? only [Bool.not_true]
    refine ⟨Tv.eq hb hc, ?_⟩
    cases hbc : b.eq c with
    | true =>
      have : partOk rs ds (.str r) b c d = false := by
        cases b <;> cases c <;> cases d <;> first | rfl | skip
        rw [eq_str] at hbc
        simp only [partOk, hbc, Bool.not_true, Bool.and_false, Bool.false_and]
      rw [this] at hR
      simp? only []
      exact hR
    | false =>
      simp? only []
      refine ⟨hd.1.av.isD, ?_⟩
      cases d with
      | tup ws =>
        simp? only [D.isTy, Bool.not_true]
        have hoth : (rs.filter fun n => !(D.str n).eq (.str r)) = rs.filter fun n => !decide (n = r) := by
          exact List.filter_congr fun n _ => by rw [eq_str]
        have hown : ((ds.filter fun e => isSide e.2 (.str r)).map fun e => D.str e.1) = (ownOf ds r).map .str := by
          simp only [ownOf, List.map_map]
          rfl
        rw [hoth, hown]
        generalize ho : (rs.filter fun n => !decide (n = r)) = oth
        have bad : ∀ x : D, x = b ∨ x = c → Tv x := fun x hx => by rcases hx with rfl | rfl <;> assumption
        refine lc_pure id (fun x => !(isNm x && !isRm oth x)) (fun x hx acc Kc hz hK => ?_) (show 2 ≤ sizeLine by omega) ?_
        · have tx := bad x (by simpa using hx)
          simp? only [lcStep, wtOr, wtNot, wtv, wtCmp, hN, pfName]
          refine ⟨tx.1.av, ?_⟩
          cases hn : isNm x with
          | false =>
            simp? only [hn, Bool.false_and, Bool.not_false] at hK ⊢
            exact ⟨hz, hK⟩
          | true =>
            simp? only [hn, Bool.true_and, Bool.not_not, Bool.not_true, inD_strs tx.1.av.isD] at hK ⊢
            refine ⟨okIn_strs tx.1.av.isD _, ?_⟩
            cases hi : isRm oth x with
            | true => simp only [hi, List.getElem?_cons_zero, List.getElem?_cons_succ, List.set_cons_zero, List.set_cons_succ, List.dropLast_cons_cons, List.dropLast_singleton, List.getLast?_cons_cons, List.getLast?_singleton, List.cons_append, List.nil_append, List.append_nil, List.reverse_cons, List.reverse_nil, Option.getD_some, Option.getD_none, Option.some.injEq, Option.bind_some, exists_eq_left', exists_eq_left, exists_eq_right, exists_and_left, true_and, and_true, if_true, if_false, reduceCtorEq, reduceIte, Bool.false_eq_true, Bool.false_xor, Bool.true_xor, List.replicate_succ, List.replicate_zero, List.length_cons, List.length_nil, Nat.zero_add, Nat.reduceAdd, Nat.reduceSub, O.d.injEq, D.int.injEq, Res.d.injEq, B.l.injEq, B.d.injEq, D.bl.injEq, D.str.injEq, D.lst.injEq, D.tup.injEq, Nat.zero_le] at hK ⊢; exact ⟨hz, hK⟩
            | false => simp only [hi, List.getElem?_cons_zero, List.getElem?_cons_succ, List.set_cons_zero, List.set_cons_succ, List.dropLast_cons_cons, List.dropLast_singleton, List.getLast?_cons_cons, List.getLast?_singleton, List.cons_append, List.nil_append, List.append_nil, List.reverse_cons, List.reverse_nil, Option.getD_some, Option.getD_none, Option.some.injEq, Option.bind_some, exists_eq_left', exists_eq_left, exists_eq_right, exists_and_left, true_and, and_true, if_true, if_false, reduceCtorEq, reduceIte, Bool.false_eq_true, Bool.false_xor, Bool.true_xor, List.replicate_succ, List.replicate_zero, List.length_cons, List.length_nil, Nat.zero_add, Nat.reduceAdd, Nat.reduceSub, O.d.injEq, D.int.injEq, Res.d.injEq, B.l.injEq, B.d.injEq, D.bl.injEq, D.str.injEq, D.lst.injEq, D.tup.injEq, Nat.zero_le] at hK ⊢; exact hK
        · simp? only [zne_g]
          have hbd : D.isDL ([b, c].filter fun x => !(isNm x && !isRm oth x)) = true := isDL_of fun x hx => (bad x (by have := (List.mem_filter.mp hx).1; simpa using this)).1.av.isD
          rw [List.map_id]
          refine ⟨okNe_nil hbd, ?_⟩
          rw [eq_nilL]
          have e6 : ([b, c].filter fun x => !(isNm x && !isRm oth x)).isEmpty = ((isNm b && !isRm oth b) && (isNm c && !isRm oth c)) := by
            have := filter_empty [b, c] (fun x => isNm x && !isRm oth x)
            rw [this]
            simp
          rw [e6]
          cases hbb : isNm b && !isRm oth b with
          | false =>
            have : partOk rs ds (.str r) b c (.tup ws) = false := by
              cases b <;> cases c <;> first | rfl | skip
              simp only [isNm, isRm] at hbb
              simp only [partOk, ho]
              rw [Bool.eq_false_iff]
              simp only [Bool.and_eq_true, Bool.not_eq_true', ne_eq, not_and, decide_eq_true_eq] at hbb ⊢
              simp_all
            rw [this] at hR
            simp? only [Bool.false_and, Bool.not_false]
            exact hR
          | true =>
            cases hcc : isNm c && !isRm oth c with
            | false =>
              have : partOk rs ds (.str r) b c (.tup ws) = false := by
                cases b <;> cases c <;> first | rfl | skip
                simp only [isNm, isRm] at hcc
                simp only [partOk, ho]
                rw [Bool.eq_false_iff]
                simp only [Bool.and_eq_true, Bool.not_eq_true', ne_eq, not_and, decide_eq_true_eq] at hcc ⊢
                simp_all
              rw [this] at hR
              simp? only [Bool.true_and, Bool.not_false]
              exact hR
            | true =>
              rw [Bool.and_eq_true, Bool.not_eq_true'] at hbb hcc
              obtain ⟨x, rfl, hx⟩ := isNm_str hbb.1
              obtain ⟨y, rfl, hy⟩ := isNm_str hcc.1
              have hb2 := hbb.2
              have hc2 := hcc.2
              simp only [isRm] at hb2 hc2
              have hp : partOk rs ds (.str r) (.str x) (.str y) (.tup ws) = (ws.all (isRm (ownOf ds r)) && asc (strsL ws)) := by
                rw [eq_str] at hbc
                simp only [partOk, ho, hb2, hc2, hbc, decide_eq_true hr, hx, hy, Bool.not_false, Bool.true_and]
              rw [hp] at hR
              generalize ownOf ds r = own at hR ⊢
              have hwl := hd.1.lenT
              simp? only [Bool.true_and, Bool.not_true, hO, pfOneOf, e4]
              refine lc_pure id (fun x => !isRm own x) (fun x hx acc Kc hz hK => ?_) (by omega) ?_
              · have tx := hd.part hx
                simp? only [lcStep, wtNot, wtv, hO, pfOneOf]
                refine ⟨own, rfl, tx.1.av.isD, ?_⟩
                cases hi : isRm own x with
                | true => simp only [hi, Bool.not_true, List.getElem?_cons_zero, List.getElem?_cons_succ, List.set_cons_zero, List.set_cons_succ, List.dropLast_cons_cons, List.dropLast_singleton, List.getLast?_cons_cons, List.getLast?_singleton, List.cons_append, List.nil_append, List.append_nil, List.reverse_cons, List.reverse_nil, Option.getD_some, Option.getD_none, Option.some.injEq, Option.bind_some, exists_eq_left', exists_eq_left, exists_eq_right, exists_and_left, true_and, and_true, if_true, if_false, reduceCtorEq, reduceIte, Bool.false_eq_true, Bool.false_xor, Bool.true_xor, List.replicate_succ, List.replicate_zero, List.length_cons, List.length_nil, Nat.zero_add, Nat.reduceAdd, Nat.reduceSub, O.d.injEq, D.int.injEq, Res.d.injEq, B.l.injEq, B.d.injEq, D.bl.injEq, D.str.injEq, D.lst.injEq, D.tup.injEq, Nat.zero_le] at hK ⊢; exact hK
                | false => simp only [hi, Bool.not_false, List.getElem?_cons_zero, List.getElem?_cons_succ, List.set_cons_zero, List.set_cons_succ, List.dropLast_cons_cons, List.dropLast_singleton, List.getLast?_cons_cons, List.getLast?_singleton, List.cons_append, List.nil_append, List.append_nil, List.reverse_cons, List.reverse_nil, Option.getD_some, Option.getD_none, Option.some.injEq, Option.bind_some, exists_eq_left', exists_eq_left, exists_eq_right, exists_and_left, true_and, and_true, if_true, if_false, reduceCtorEq, reduceIte, Bool.false_eq_true, Bool.false_xor, Bool.true_xor, List.replicate_succ, List.replicate_zero, List.length_cons, List.length_nil, Nat.zero_add, Nat.reduceAdd, Nat.reduceSub, O.d.injEq, D.int.injEq, Res.d.injEq, B.l.injEq, B.d.injEq, D.bl.injEq, D.str.injEq, D.lst.injEq, D.tup.injEq, Nat.zero_le] at hK ⊢; exact ⟨hz, hK⟩
              · simp? only [zeq_g, e4]
                have hwd : D.isDL (ws.filter fun x => !isRm own x) = true := isDL_of fun x hx => (hd.part (List.mem_filter.mp hx).1).1.av.isD
                rw [List.map_id]
                refine ⟨okEq_nilL hwd, ?_⟩
                rw [eq_nilL, filter_empty ws (isRm own)]
                cases hwa : ws.all (isRm own) with
                | false =>
                  simp? only [hwa, Bool.false_and] at hR ⊢
                  exact hR
                | true =>
                  obtain ⟨ss, rfl⟩ := isRm_strs hwa
                  simp? only [hwa, Bool.true_and, strsL_map] at hR ⊢
                  rw [List.length_map] at hwl
                  refine ⟨ss, rfl, by have : scanBound = 4096 := rfl
                                      omega, okEq_strs _ _, ?_⟩
                  rw [eq_strs]
                  have e8 : decide (ss = sortS (setL ss)) = asc ss := by
                    rw [Bool.eq_iff_iff, decide_eq_true_eq, sset_eq, asc_iff]
                  rw [e8]
                  exact hR
      | _ =>
        rw [part_off4 rfl] at hR
        simp only [D.isTy, Bool.not_false, List.getElem?_cons_zero, List.getElem?_cons_succ, List.set_cons_zero, List.set_cons_succ, List.dropLast_cons_cons, List.dropLast_singleton, List.getLast?_cons_cons, List.getLast?_singleton, List.cons_append, List.nil_append, List.append_nil, List.reverse_cons, List.reverse_nil, Option.getD_some, Option.getD_none, Option.some.injEq, Option.bind_some, exists_eq_left', exists_eq_left, exists_eq_right, exists_and_left, true_and, and_true, if_true, if_false, reduceCtorEq, reduceIte, Bool.false_eq_true, Bool.false_xor, Bool.true_xor, List.replicate_succ, List.replicate_zero, List.length_cons, List.length_nil, Nat.zero_add, Nat.reduceAdd, Nat.reduceSub, O.d.injEq, D.int.injEq, Res.d.injEq, B.l.injEq, B.d.injEq, D.bl.injEq, D.str.injEq, D.lst.injEq, D.tup.injEq, Nat.zero_le]
        exact hR
theorem fence_door {p : List D} (hh : h = hsD rs ds) (hp : ∀ x ∈ p, Tv x) (hw : p.length = 3 ∧ w = sDoor → ∀ a b c, p = [a, b, c] → R (.d (.bl (newOk rs ds a b c)))) (hx : ¬ (p.length = 3 ∧ w = sDoor) → R (.d (.bl false))) :
    IS.sms F none bD (stF h (.tup (.str w :: p)) rs ds) ⟨nx, (retC fun r _ => R r).rt, bk, ct⟩ := by
  have sz : sizeLine = 16777216 := sizeLine_eq
  have e0 : atI (D.str w :: p) 0 = some (.str w) := zat0
  simp? only [bD, stF, hO, hN, pfOneOf, pfName, wtCmp, wtOr, wtNot, wtv, zeq_g, e0]
  have hs : Str.ofString "door" = sDoor := rfl
  rw [hs]
  by_cases hd : w = sDoor
  · subst hd
    simp only [decide_true, Bool.not_true, List.getElem?_cons_zero, List.getElem?_cons_succ, List.set_cons_zero, List.set_cons_succ, List.dropLast_cons_cons, List.dropLast_singleton, List.getLast?_cons_cons, List.getLast?_singleton, List.cons_append, List.nil_append, List.append_nil, List.reverse_cons, List.reverse_nil, Option.getD_some, Option.getD_none, Option.some.injEq, Option.bind_some, exists_eq_left', exists_eq_left, exists_eq_right, exists_and_left, true_and, and_true, if_true, if_false, reduceCtorEq, reduceIte, Bool.false_eq_true, Bool.false_xor, Bool.true_xor, List.replicate_succ, List.replicate_zero, List.length_cons, List.length_nil, Nat.zero_add, Nat.reduceAdd, Nat.reduceSub, O.d.injEq, D.int.injEq, Res.d.injEq, B.l.injEq, B.d.injEq, D.bl.injEq, D.str.injEq, D.lst.injEq, D.tup.injEq, Nat.zero_le]
    by_cases hl : p.length = 3
    · match p, hl with
      | [a, b, c], _ =>
        have hR := hw ⟨rfl, rfl⟩ a b c rfl
        have e1 : atI [D.str sDoor, a, b, c] 1 = some a := rfl
        have e2 : atI [D.str sDoor, a, b, c] 2 = some b := rfl
        have e3 : atI [D.str sDoor, a, b, c] 3 = some c := rfl
        have ta := hp a (by simp)
        have tb := hp b (by simp)
        have tc := hp c (by simp)
        rw [if_neg (by simp)]
        simp? only [e1, e2, e3]
        refine ⟨ta.1.av, ?_⟩
        simp only [newOk] at hR
        cases h1 : isNm a with
        | false =>
          simp? only [h1, Bool.false_and, Bool.not_false] at hR ⊢
          exact hR
        | true =>
          obtain ⟨x, rfl, hx⟩ := isNm_str h1
          simp? only [h1, Bool.true_and, Bool.not_true] at hR ⊢
          refine ⟨_, rfl, ?_⟩
          rw [hasK_drs]
          cases h2 : ownS ds x with
          | true =>
            simp? only [isOwn, h2, Bool.not_true, Bool.false_and] at hR ⊢
            exact hR
          | false =>
            simp? only [isOwn, h2, Bool.not_false, Bool.true_and, areSd] at hR ⊢
            refine ⟨rs, rfl, tb.1.av.isD, ?_⟩
            cases h3 : isRm rs b with
            | false =>
              simp? only [h3, Bool.false_and] at hR ⊢
              exact hR
            | true =>
              simp? only [h3, Bool.true_and] at hR ⊢
              cases h4 : c.isNon with
              | true =>
                simp? only [h4, Bool.true_or] at hR ⊢
                exact hR
              | false =>
                simp? only [h4, Bool.false_or] at hR ⊢
                refine ⟨rs, rfl, tc.1.av.isD, ?_⟩
                cases h5 : isRm rs c with
                | false =>
                  simp? only [h5, Bool.false_and] at hR ⊢
                  exact hR
                | true =>
                  obtain ⟨y, rfl, _⟩ := isRm_str h3
                  obtain ⟨z, rfl, _⟩ := isRm_str h5
                  simp? only [h5, ltD, Bool.true_and] at hR ⊢
                  exact hR
    · rw [if_pos (by simp; omega)]
      exact hx fun z => hl z.1
  · simp? only [decide_eq_false hd, Bool.not_false]
    exact hx fun z => hd z.2
end
set_option maxRecDepth 100000
set_option maxHeartbeats 4000000
def six (w : Str) : Bool := decide (w = sBeam) || decide (w = sOpen) || decide (w = sShut) || decide (w = sWent) || decide (w = sRoom) || decide (w = sAll)
theorem ln_rest {rs : List Str} {ds : List Dr} {w : Str} {ps : List D} (h : six w = false) (h1 : w ≠ sJoin) (h2 : w ≠ sPart) (h3 : w ≠ sDoor) : lnOk rs ds w ps = false := by
  simp only [six, Bool.or_eq_false_iff, decide_eq_false_iff_not] at h
  obtain ⟨⟨⟨⟨⟨a1, a2⟩, a3⟩, a4⟩, a5⟩, a6⟩ := h
  unfold lnOk
  rw [if_neg (by simp [a1, a2, a3]), if_neg a4, if_neg a5, if_neg a6, if_neg h1, if_neg h2, if_neg h3]
def pfFence : List D → (Res → Prop) → Prop
  | [h, .tup (.str w :: ps)], R => ∃ rs ds, HsD h rs ds ∧ Tv (.tup (.str w :: ps)) ∧ six w = false ∧ R (.d (.bl (lnOk rs ds w ps)))
  | _, _ => False
theorem k_fence (F : Fs) (hS : F.fn "_law_sides" = some (.pu pfSidesD)) (hO : F.fn "_law_is_one_of" = some (.pu pfOneOf)) (hN : F.fn "_law_is_name" = some (.pu pfName)) : Keeps F N_law_is_fence_line b_law_is_fence_line (.pu pfFence) := by
  intro ds R h
  have sz : sizeLine = 16777216 := sizeLine_eq
  match ds, h with
  | [h, .tup (.str w :: ps)], ⟨rs, ds, hh0, ht, hw6, hR⟩ =>
    obtain ⟨hh, hH, hrl, hdl⟩ := id hh0
    have part : ∀ x ∈ ps, Tv x := fun x hx => ht.part (List.mem_cons_of_mem _ hx)
    rw [fence_eq]
    refine step (fun ρ' => ρ' = stF h (.tup (.str w :: ps)) rs ds) (fun K hK => ?_) fun ρ' e => ?_
    · unfold stF at hK
      subst hh
      simp? only [N_law_is_fence_line, hsD, hS, pfSidesD]
      exact ⟨rs, ds, hh0, hK _ rfl⟩
    subst e
    have cond : ∀ (s : Str) (n : Nat) (K : Bool → S → Prop), K (decide (w = s) && decide (ps.length + 1 = n)) (stF h (.tup (.str w :: ps)) rs ds) → (IE.sm F none (.and [.cmp .Eq (.ix (.var 1) (.int 0)) (.str s), .cmp .Eq (.fn .len [.var 1]) (.int (n : Int))])).2 (stF h (.tup (.str w :: ps)) rs ds) K := fun s n K hK => by
      have e0 : atI (D.str w :: ps) 0 = some (.str w) := zat0
      unfold stF at hK ⊢
      simp? only [wtAnd, wtCmp, e0]
      by_cases hw : w = s
      · simp only [decide_eq_true hw, Bool.true_and, List.getElem?_cons_zero, List.getElem?_cons_succ, List.set_cons_zero, List.set_cons_succ, List.dropLast_cons_cons, List.dropLast_singleton, List.getLast?_cons_cons, List.getLast?_singleton, List.cons_append, List.nil_append, List.append_nil, List.reverse_cons, List.reverse_nil, Option.getD_some, Option.getD_none, Option.some.injEq, Option.bind_some, exists_eq_left', exists_eq_left, exists_eq_right, exists_and_left, true_and, and_true, if_true, if_false, reduceCtorEq, reduceIte, Bool.false_eq_true, Bool.false_xor, Bool.true_xor, List.replicate_succ, List.replicate_zero, List.length_cons, List.length_nil, Nat.zero_add, Nat.reduceAdd, Nat.reduceSub, O.d.injEq, D.int.injEq, Res.d.injEq, B.l.injEq, B.d.injEq, D.bl.injEq, D.str.injEq, D.lst.injEq, D.tup.injEq, Nat.zero_le] at hK ⊢
        have : decide (((ps.length + 1 : Nat) : Int) = (n : Int)) = decide (ps.length + 1 = n) := by
          rw [Bool.eq_iff_iff, decide_eq_true_eq, decide_eq_true_eq]; omega
        rw [this]; exact hK
      · simp only [decide_eq_false hw, Bool.false_and, List.getElem?_cons_zero, List.getElem?_cons_succ, List.set_cons_zero, List.set_cons_succ, List.dropLast_cons_cons, List.dropLast_singleton, List.getLast?_cons_cons, List.getLast?_singleton, List.cons_append, List.nil_append, List.append_nil, List.reverse_cons, List.reverse_nil, Option.getD_some, Option.getD_none, Option.some.injEq, Option.bind_some, exists_eq_left', exists_eq_left, exists_eq_right, exists_and_left, true_and, and_true, if_true, if_false, reduceCtorEq, reduceIte, Bool.false_eq_true, Bool.false_xor, Bool.true_xor, List.replicate_succ, List.replicate_zero, List.length_cons, List.length_nil, Nat.zero_add, Nat.reduceAdd, Nat.reduceSub, O.d.injEq, D.int.injEq, Res.d.injEq, B.l.injEq, B.d.injEq, D.bl.injEq, D.str.injEq, D.lst.injEq, D.tup.injEq, Nat.zero_le] at hK ⊢
        exact hK
    refine step (fun ρ' => ρ' = stF h (.tup (.str w :: ps)) rs ds ∧ ¬ (w = sJoin ∧ ps.length = 3)) (fun K hK => ?_) fun ρ' ⟨e, hj⟩ => ?_
    · refine step_ite (fun b ρ' => ρ' = stF h (.tup (.str w :: ps)) rs ds ∧ b = (decide (w = sJoin) && decide (ps.length + 1 = 4))) (fun K' hK' => cond sJoin 4 K' (hK' _ _ ⟨rfl, rfl⟩)) fun b ρ' ⟨e, hb⟩ => ?_
      subst e
      cases b with
      | true =>
        simp only [eq_comm (a := true), Bool.and_eq_true, decide_eq_true_eq] at hb
        obtain ⟨rfl, hl⟩ := hb
        match ps, hl, part, hR with
        | [a, b, c], _, part, hR =>
          rw [ln_join] at hR
          exact fence_join F hO hN hrl (part a (by simp)) (part b (by simp)) (part c (by simp)) hR
      | false =>
        refine hK _ ⟨rfl, fun ⟨z1, z2⟩ => ?_⟩
        rw [z1, z2] at hb
        simp at hb
    subst e
    refine step (fun ρ' => ρ' = stF h (.tup (.str w :: ps)) rs ds ∧ ¬ (w = sPart ∧ ps.length = 4)) (fun K hK => ?_) fun ρ' ⟨e, hp⟩ => ?_
    · refine step_ite (fun b ρ' => ρ' = stF h (.tup (.str w :: ps)) rs ds ∧ b = (decide (w = sPart) && decide (ps.length + 1 = 5))) (fun K' hK' => cond sPart 5 K' (hK' _ _ ⟨rfl, rfl⟩)) fun b ρ' ⟨e, hb⟩ => ?_
      subst e
      cases b with
      | true =>
        simp only [eq_comm (a := true), Bool.and_eq_true, decide_eq_true_eq] at hb
        obtain ⟨rfl, hl⟩ := hb
        match ps, hl, part, hR with
        | [a, b, c, d], _, part, hR =>
          rw [ln_part] at hR
          exact fence_part F hO hN hrl hdl hh (part a (by simp)) (part b (by simp)) (part c (by simp)) (part d (by simp)) hR
      | false =>
        refine hK _ ⟨rfl, fun ⟨z1, z2⟩ => ?_⟩
        rw [z1, z2] at hb
        simp at hb
    subst e
    refine fence_door F hO hN hh part (fun ⟨hl, hw⟩ a b c e => ?_) fun hn => ?_
    · subst hw e
      rw [ln_door] at hR
      exact hR
    · have : lnOk rs ds w ps = false := by
        by_cases h1 : w = sJoin
        · subst h1
          rw [ln_join]
          have hl : ps.length ≠ 3 := fun z => hj ⟨rfl, z⟩
          match ps, hl with
          | [], _ => rfl
          | [_], _ => rfl
          | [_, _], _ => rfl
          | [_, _, _], hl => exact absurd rfl hl
          | _ :: _ :: _ :: _ :: _, _ => rfl
        by_cases h2 : w = sPart
        · subst h2
          rw [ln_part]
          have hl : ps.length ≠ 4 := fun z => hp ⟨rfl, z⟩
          match ps, hl with
          | [], _ => rfl
          | [_], _ => rfl
          | [_, _], _ => rfl
          | [_, _, _], _ => rfl
          | [_, _, _, _], hl => exact absurd rfl hl
          | _ :: _ :: _ :: _ :: _ :: _, _ => rfl
        by_cases h3 : w = sDoor
        · subst h3
          rw [ln_door]
          have hl : ps.length ≠ 3 := fun z => hn ⟨z, rfl⟩
          match ps, hl with
          | [], _ => rfl
          | [_], _ => rfl
          | [_, _], _ => rfl
          | [_, _, _], hl => exact absurd rfl hl
          | _ :: _ :: _ :: _ :: _, _ => rfl
        exact ln_rest hw6 h1 h2 h3
      rw [this] at hR
      exact hR
set_option maxRecDepth 100000
set_option maxHeartbeats 4000000
def pfLLine : List D → (Res → Prop) → Prop
  | [h, d], R => ∃ rs ds, HsD h rs ds ∧ Tv d ∧ R (.d (.bl (isLn rs ds d)))
  | _, _ => False
def bR : List IS := [.ite (.cmp .In (.var 2) (.tup [.str "beam", .str "open", .str "shut"])) [.ret (.and [.cmp .Eq (.var 3) (.int 2), .call "_law_is_one_of" [.ix (.var 1) (.int 1), .var 4]])] [], .ite (.cmp .Eq (.var 2) (.str "went")) [.ite (.or [.cmp .NotEq (.var 3) (.int 3), .not (.call "_law_is_one_of" [.ix (.var 1) (.int 1), .var 4])]) [.ret (.bl false)] [], .ret (.cmp .In (.ix (.var 1) (.int 2)) (.ix (.var 4) (.ix (.var 1) (.int 1))))] [], .ite (.cmp .Eq (.var 2) (.str "room")) [.ret (.and [.cmp .Eq (.var 3) (.int 4), .call "_law_is_one_of" [.ix (.var 1) (.int 1), .ix (.var 0) (.int 0)], .call "_law_are_bounds" [.ix (.var 1) (.int 2), .ix (.var 1) (.int 3)]])] [], .ite (.cmp .Eq (.var 2) (.str "all")) [.ret (.and [.cmp .Eq (.var 3) (.int 3), .call "_law_are_bounds" [.ix (.var 1) (.int 1), .ix (.var 1) (.int 2)]])] [], .ret (.call "_law_is_fence_line" [.var 0, .var 1])]
theorem lline_eq : b_law_is_line = .ite (.or [.not (.isi .tuple (.var 1)), .cmp .Eq (.var 1) (.tup []), .not (.isi .str (.ix (.var 1) (.int 0)))]) [.ret (.bl false)] [] :: .par [2, 3, 4] [.ix (.var 1) (.int 0), .fn .len [.var 1], .call "_law_sides" [.var 0]] :: bR := rfl
def m1 (f : D → Bool) : List D → Bool
  | [a] => f a
  | _ => false
def m2 (f : D → D → Bool) : List D → Bool
  | [a, b] => f a b
  | _ => false
def m3 (f : D → D → D → Bool) : List D → Bool
  | [a, b, c] => f a b c
  | _ => false
theorem m1_no {f : D → Bool} : ∀ {ps : List D}, ps.length ≠ 1 → m1 f ps = false
  | [], _ => rfl
  | [_], h => absurd rfl h
  | _ :: _ :: _, _ => rfl
theorem m2_no {f : D → D → Bool} : ∀ {ps : List D}, ps.length ≠ 2 → m2 f ps = false
  | [], _ => rfl
  | [_], _ => rfl
  | [_, _], h => absurd rfl h
  | _ :: _ :: _ :: _, _ => rfl
theorem m3_no {f : D → D → D → Bool} : ∀ {ps : List D}, ps.length ≠ 3 → m3 f ps = false
  | [], _ => rfl
  | [_], _ => rfl
  | [_, _], _ => rfl
  | [_, _, _], h => absurd rfl h
  | _ :: _ :: _ :: _ :: _, _ => rfl
section
variable {rs : List Str} {ds : List Dr}
theorem ln_own (w : Str) (hw : w = sBeam ∨ w = sOpen ∨ w = sShut) : ∀ ps : List D, lnOk rs ds w ps = m1 (isOwn ds) ps := fun ps => by
  unfold lnOk
  rw [if_pos hw]
  match ps with
  | [] => rfl
  | [_] => rfl
  | _ :: _ :: _ => rfl
theorem ln_went' : ∀ ps : List D, lnOk rs ds sWent ps = m2 (isPass ds) ps := fun ps => by
  rw [ln_went]
  match ps with
  | [] => rfl
  | [_] => rfl
  | [_, _] => rfl
  | _ :: _ :: _ :: _ => rfl
theorem ln_room' : ∀ ps : List D, lnOk rs ds sRoom ps = m3 (fun a b c => isRm rs a && bnds b c) ps := fun ps => by
  rw [ln_room]
  match ps with
  | [] => rfl
  | [_] => rfl
  | [_, _] => rfl
  | [_, _, _] => rfl
  | _ :: _ :: _ :: _ :: _ => rfl
theorem ln_all' : ∀ ps : List D, lnOk rs ds sAll ps = m2 bnds ps := fun ps => by
  rw [ln_all]
  match ps with
  | [] => rfl
  | [_] => rfl
  | [_, _] => rfl
  | _ :: _ :: _ :: _ => rfl
end
theorem ints_eq {n : Nat} {m : Nat} : decide (((n : Nat) : Int) = (m : Int)) = decide (n = m) := by
  rw [Bool.eq_iff_iff, decide_eq_true_eq, decide_eq_true_eq]; omega
theorem k_lline (F : Fs) (hS : F.fn "_law_sides" = some (.pu pfSidesD)) (hO : F.fn "_law_is_one_of" = some (.pu pfOneOf)) (hB : F.fn "_law_are_bounds" = some (.pu pfBnds)) (hF : F.fn "_law_is_fence_line" = some (.pu pfFence)) : Keeps F N_law_is_line b_law_is_line (.pu pfLLine) := by
  intro ds R h
  have sz : sizeLine = 16777216 := sizeLine_eq
  match ds, h with
  | [h, d], ⟨rs, ds, hh0, ht, hR⟩ =>
    obtain ⟨hh, hH, hrl, hdl⟩ := id hh0
    have hd := ht.1.av.isD
    rw [lline_eq]
    refine step (fun ρ' => ρ' = ⟨[some (.d h), some (.d d), none, none, none], 0⟩ ∧ ∃ w ps, d = .tup (.str w :: ps)) (fun K hK => ?_) fun ρ' ⟨e, w, ps, ed⟩ => ?_
    · simp? only [N_law_is_line]
      refine ⟨hd, ?_⟩
      cases d with
      | tup xs =>
        simp? only [D.isTy, Bool.not_true, zeq_g]
        refine ⟨okEq_nil hd, ?_⟩
        rw [eq_nil _ hd]
        cases xs with
        | nil =>
          simp? only [isNilT]
          exact hR
        | cons x ps =>
          simp? only [isNilT]
          refine ⟨(ht.part (x := x) (by simp)).1.av.isD, ?_⟩
          cases x with
          | str w =>
            simp? only [D.isTy, Bool.not_true]
            exact hK _ ⟨rfl, w, ps, rfl⟩
          | _ => exact hR
      | _ => exact hR
    subst e ed
    rw [isLn_w] at hR
    have part : ∀ x ∈ ps, Tv x := fun x hx => ht.part (List.mem_cons_of_mem _ hx)
    refine step (fun ρ' => ρ' = ⟨[some (.d h), some (.d (.tup (.str w :: ps))), some (.d (.str w)), some (.d (.int ((ps.length + 1 : Nat) : Int))), some (.m (drKs ds) (drVs ds))], 0⟩) (fun K hK => ?_) fun ρ' e => ?_
    · have e0 : atI (D.str w :: ps) 0 = some (.str w) := zat0
      simp? only [hS, pfSidesD, e0]
      exact ⟨rs, ds, hh0, hK _ rfl⟩
    subst e
    have own : ∀ a ∈ ps, a.isD = true := fun a ha => (part a ha).1.av.isD
    unfold bR
    refine step (fun ρ' => ρ' = ⟨[some (.d h), some (.d (.tup (.str w :: ps))), some (.d (.str w)), some (.d (.int ((ps.length + 1 : Nat) : Int))), some (.m (drKs ds) (drVs ds))], 0⟩ ∧ ¬ (w = sBeam ∨ w = sOpen ∨ w = sShut)) (fun K hK => ?_) fun ρ' ⟨e, hn⟩ => ?_
    · have e3 : [D.str (Str.ofString "beam"), D.str (Str.ofString "open"), D.str (Str.ofString "shut")] = [sBeam, sOpen, sShut].map .str := rfl
      simp? only [wtCmp]
      rw [e3]
      refine ⟨by omega, okIn_strs rfl _, ?_⟩
      rw [inD_strs rfl]
      by_cases hw : w = sBeam ∨ w = sOpen ∨ w = sShut
      · have : isRm [sBeam, sOpen, sShut] (.str w) = true := by simpa [isRm] using hw
        rw [ln_own w hw] at hR
        simp? only [this]
        by_cases hl : ps.length = 1
        · match ps, hl, own, hR with
          | [a], _, own, hR =>
            have e1 : atI [D.str w, a] 1 = some a := rfl
            rw [if_pos (by simp)]
            simp? only [hO, e1, pfOneOf]
            exact ⟨ds, rfl, own a (by simp), hR⟩
        · rw [if_neg (by simp; omega)]
          rw [m1_no hl] at hR
          have e2 : decide (((ps.length + 1 : Nat) : Int) = 2) = false := decide_eq_false (by omega)
          rw [e2]
          exact hR
      · have : isRm [sBeam, sOpen, sShut] (.str w) = false := by simpa [isRm] using hw
        simp? only [this]
        exact hK _ ⟨rfl, hw⟩
    subst e
    refine step (fun ρ' => ρ' = ⟨[some (.d h), some (.d (.tup (.str w :: ps))), some (.d (.str w)), some (.d (.int ((ps.length + 1 : Nat) : Int))), some (.m (drKs ds) (drVs ds))], 0⟩ ∧ w ≠ sWent) (fun K hK => ?_) fun ρ' ⟨e, hn1⟩ => ?_
    · have e3 : Str.ofString "went" = sWent := rfl
      simp? only [wtCmp, e3]
      by_cases hw : w = sWent
      · subst hw
        rw [ln_went'] at hR
        simp? only [decide_true, wtCmp, wtOr, wtNot, wtv]
        by_cases hl : ps.length = 2
        · match ps, hl, own, hR with
          | [a, b], _, own, hR =>
            have e1 : atI [D.str sWent, a, b] 1 = some a := rfl
            have e2 : atI [D.str sWent, a, b] 2 = some b := rfl
            rw [if_neg (by simp)]
            simp? only [hO, e1, e2, pfOneOf]
            refine ⟨ds, rfl, own a (by simp), ?_⟩
            cases ha : isOwn ds a with
            | false =>
              simp only [m2, isPass_off ha] at hR
              simp? only [Bool.not_false]
              exact hR
            | true =>
              obtain ⟨x, s, rfl, hs⟩ := isOwn_str ha
              have hp : isPass ds (.str x) b = isSide s b := by simp only [isPass, hs]
              simp only [m2, hp] at hR
              have hl : lookD (drKs ds) (drVs ds) (.inr x) = some (.tup [.str s.1, sideD s.2]) := by rw [lookD_drs, hs]; rfl
              simp? only [Bool.not_true]
              refine ⟨_, rfl, _, hl, ?_⟩
              simp? only []
              exact ⟨okIn_sd (own b (by simp)) _ _, by rw [inD_sd (own b (by simp))]; exact hR⟩
        · rw [m2_no hl] at hR
          have e2 : decide (((ps.length + 1 : Nat) : Int) = 3) = false := decide_eq_false (by omega)
          rw [e2]
          exact hR
      · simp? only [decide_eq_false hw]
        exact hK _ ⟨rfl, hw⟩
    subst e
    refine step (fun ρ' => ρ' = ⟨[some (.d h), some (.d (.tup (.str w :: ps))), some (.d (.str w)), some (.d (.int ((ps.length + 1 : Nat) : Int))), some (.m (drKs ds) (drVs ds))], 0⟩ ∧ w ≠ sRoom) (fun K hK => ?_) fun ρ' ⟨e, hn2⟩ => ?_
    · have e3 : Str.ofString "room" = sRoom := rfl
      simp? only [wtCmp, e3]
      by_cases hw : w = sRoom
      · subst hw
        rw [ln_room'] at hR
        simp? only [decide_true]
        by_cases hl : ps.length = 3
        · match ps, hl, own, hR with
          | [a, b, c], _, own, hR =>
            have e1 : atI [D.str sRoom, a, b, c] 1 = some a := rfl
            have e2 : atI [D.str sRoom, a, b, c] 2 = some b := rfl
            have e4 : atI [D.str sRoom, a, b, c] 3 = some c := rfl
            have e5 : atI [D.tup (rs.map .str), D.tup (ds.map drD)] 0 = some (.tup (rs.map .str)) := rfl
            rw [if_pos (by simp)]
            simp? only [hh, hsD, hO, hB, e1, e2, e4, pfOneOf, pfBnds]
            refine ⟨rs, rfl, own a (by simp), ?_⟩
            cases ha : isRm rs a with
            | false =>
              simp? only [m3, ha, Bool.false_and] at hR ⊢
              exact hR
            | true =>
              simp? only [m3, ha, Bool.true_and] at hR ⊢
              exact ⟨own b (by simp), own c (by simp), hR⟩
        · rw [m3_no hl] at hR
          have e2 : decide (((ps.length + 1 : Nat) : Int) = 4) = false := decide_eq_false (by omega)
          rw [e2]
          exact hR
      · simp? only [decide_eq_false hw]
        exact hK _ ⟨rfl, hw⟩
    subst e
    refine step (fun ρ' => ρ' = ⟨[some (.d h), some (.d (.tup (.str w :: ps))), some (.d (.str w)), some (.d (.int ((ps.length + 1 : Nat) : Int))), some (.m (drKs ds) (drVs ds))], 0⟩ ∧ w ≠ sAll) (fun K hK => ?_) fun ρ' ⟨e, hn3⟩ => ?_
    · have e3 : Str.ofString "all" = sAll := rfl
      simp? only [wtCmp, e3]
      by_cases hw : w = sAll
      · subst hw
        rw [ln_all'] at hR
        simp? only [decide_true]
        by_cases hl : ps.length = 2
        · match ps, hl, own, hR with
          | [a, b], _, own, hR =>
            have e1 : atI [D.str sAll, a, b] 1 = some a := rfl
            have e2 : atI [D.str sAll, a, b] 2 = some b := rfl
            rw [if_pos (by simp)]
            simp? only [hB, e1, e2, pfBnds]
            exact ⟨own a (by simp), own b (by simp), hR⟩
        · rw [m2_no hl] at hR
          have e2 : decide (((ps.length + 1 : Nat) : Int) = 3) = false := decide_eq_false (by omega)
          rw [e2]
          exact hR
      · simp? only [decide_eq_false hw]
        exact hK _ ⟨rfl, hw⟩
    subst e
    simp? only [hF, pfFence]
    refine ⟨rs, ds, hh0, ht, ?_, hR⟩
    simp only [not_or] at hn
    simp [six, hn, hn1, hn2, hn3]
set_option maxRecDepth 100000
set_option maxHeartbeats 4000000
def pfSo : List D → (Res → Prop) → Prop
  | [h, d], R => ∃ rs ds, HsD h rs ds ∧ Tv d ∧ Sv (.tup [h, d]) ∧ R (.d (.bl true))
  | _, _ => False
theorem pick10 (a b : D) : pick [1, 0] [a, b] = [b, a] := rfl
theorem bools2 (a : Bool) : Sm 43 100 2 (.lst [.bl a, .bl a]) := by
  refine (Sm.lst (B := 43) (n := 0) (k := 1) (ds := [.bl a, .bl a]) fun d hd => ?_).mono (by simp) (by decide)
  simp only [List.mem_cons, List.not_mem_nil, or_false] at hd
  rcases hd with rfl | rfl <;> exact Sm.bl
theorem k_so (F : Fs) (hL : F.fn "is_line" = some (.pu pfLine)) (hLk : F.kw "is_line" ["thing", "building"] = some (.pu (fun ds R => ds.length = 2 ∧ pfLine (pick [1, 0] ds) R))) (hLL : F.fn "_law_is_line" = some (.pu pfLLine)) : Keeps F N_law_so b_law_so (.pu pfSo) := by
  intro ds R h
  have sz : sizeLine = 16777216 := sizeLine_eq
  match ds, h with
  | [h, d], ⟨rs, ds, hh0, ht, hsv, hR⟩ =>
    have hs := hsv.av.show
    have hb := (bools2 (isLn rs ds d)).show (by decide) (by omega) (by decide)
    simp? only [N_law_so, b_law_so, hL, hLk, hLL, pick10, pfLLine, pfLine]
    refine ⟨by omega, hs.1, hs.2, rs, ds, hh0, ht, rs, ds, hh0, ht.1, rs, ds, hh0, ht.1, by omega, hb.1, hb.2, by omega, hb.1, hb.2, ?_⟩
    rw [if_pos (by simp)]
    exact ⟨by omega, hs.1, hs.2, hR⟩
set_option maxRecDepth 100000
set_option maxHeartbeats 4000000
def Nv (d : D) : Prop := Lv 0 8 0 d
theorem nv_str {x : Str} (h : nameS x = true) : Nv (.str x) := lv_str (fun b hb => by
    simp only [nameS, Bool.and_eq_true, decide_eq_true_eq, List.all_eq_true] at h
    have := h.2 b hb
    simp only [letN, Bool.and_eq_true, decide_eq_true_eq] at this
    omega) (by
    simp only [nameS, Bool.and_eq_true, decide_eq_true_eq] at h
    exact h.1.2)
theorem nv_strs {ss : List Str} (h : ∀ x ∈ ss, nameS x = true) : ∀ d ∈ ss.map D.str, Nv d := fun d hd => by
  obtain ⟨x, hx, rfl⟩ := List.mem_map.mp hd
  exact nv_str (h x hx)
theorem nv_non : Nv .non := lv_non
theorem nvs {xs : List D} (h : ∀ d ∈ xs, Nv d) : LvL 0 (9 * xs.length) 0 xs := by
  induction xs with
  | nil => exact LvL.nil
  | cons x xs ih =>
    have := (show Lv 0 8 0 x from h x List.mem_cons_self).one.app (ih fun y hy => h y (List.mem_cons_of_mem _ hy))
    refine (show LvL 0 _ 0 ([x] ++ xs) from this).mono (Nat.le_refl _) ?_ (Nat.le_refl _)
    rw [List.length_cons]; omega
theorem nv_app {xs ys : List D} (h : ∀ d ∈ xs, Nv d) (g : ∀ d ∈ ys, Nv d) : ∀ d ∈ xs ++ ys, Nv d := all_app h g
theorem nv_cut {xs : List D} (h : ∀ d ∈ xs, Nv d) (n : Nat) : ∀ d ∈ xs.take n, Nv d := fun d hd => h d (List.mem_of_mem_take hd)
theorem word_nv {x : Str} (h : (x.cps.toList.all (fun a => decide (a < 128)) && decide (x.length ≤ 8)) = true) : Nv (.str x) := by
  simp only [Bool.and_eq_true, decide_eq_true_eq, List.all_eq_true] at h
  exact lv_str h.1 h.2
theorem line_lv {xs : List D} (h : ∀ d ∈ xs, Nv d) (hl : xs.length ≤ 5) : Lv 0 150 2 (.tup xs) := (nvs h).tup.mono (Nat.le_refl _) (by omega) (by omega)
theorem line_lvT {a b c d : D} {ws : List D} (ha : Nv a) (hb : Nv b) (hc : Nv c) (hd : Nv d) (h : ∀ x ∈ ws, Nv x) (hl : ws.length ≤ 10) : Lv 0 150 2 (.tup [a, b, c, d, .tup ws]) := by
  have h1 : LvL 0 36 0 [a, b, c, d] := (nvs (xs := [a, b, c, d]) (fun x hx => by
    simp only [List.mem_cons, List.not_mem_nil, or_false] at hx
    rcases hx with rfl | rfl | rfl | rfl <;> assumption)).mono (Nat.le_refl _) (by simp) (Nat.le_refl _)
  have h2 := (nvs h).tup.one
  have := ((h1.mono (n' := 1) (Nat.le_refl _) (Nat.le_refl _) (by omega)).app h2).tup
  exact (show Lv 0 _ 2 (.tup ([a, b, c, d] ++ [.tup ws])) from this).mono (Nat.le_refl _) (by omega) (Nat.le_refl _)
def pfTry : List D → Nat → (Res → Nat → Prop) → Prop
  | [h, .lst xs], k, R => ∃ rs ds ss, HsD h rs ds ∧ xs = ss.map D.str ∧ NmOk ss ∧ rs.length ≤ 10 ∧ ds.length ≤ 10 ∧ k + 1000 < 1099511627776 ∧ ∀ d k', Lv 0 150 2 d → k' ≤ k + 50 → R (.d d) k'
  | _, _, _ => False
def tA : List IS := [.par [3, 4] [.fn .list [.ix (.var 1) (.int 0)], .lc (.ix (.var 14) (.int 0)) (.nm 14) 0 [.ix (.var 1) (.int 1)] [] [("_law_door", 14)]], .unp (.tup [.nm 5, .nm 6]) (.tup [.bin .Add (.bin .Add (.var 3) (.var 3)) (.sl (.var 2) none (some (.int 9))), .call "_law_draw" [.var 0, .int 5]]), .frz 5, .unp (.tup [.nm 7, .nm 8, .nm 9]) (.lc (.call "_law_pick" [.var 0, .var 5]) (.nm 13) 1 [.int 3] [] [("_law_k", 13)])]
def tB : List IS := [.ite (.cmp .Eq (.var 6) (.int 0)) [.ret (.tup [.str "joined", .call "_law_pick" [.var 0, .var 3], .var 8, .var 9])] [], .ite (.cmp .Eq (.var 6) (.int 1)) [.frz 4, .set 10 (.lc (.var 15) (.nm 15) 0 [.var 4] [.cmp .Eq (.call "_law_draw" [.var 0, .int 2]) (.int 0)] [("_law_name", 15)]), .ret (.tup [.str "parted", .var 7, .var 8, .var 9, .fn .tuple [.var 10]])] [], .ite (.cmp .Eq (.var 6) (.int 2)) [.set 11 (.call "_law_pick" [.var 0, .var 3]), .frz 11, .set 10 (.lc (.ix (.var 14) (.int 0)) (.nm 14) 0 [.ix (.var 1) (.int 1)] [.and [.cmp .In (.var 11) (.sl (.var 14) (some (.int 1)) none), .cmp .Eq (.call "_law_draw" [.var 0, .int 2]) (.int 0)]] [("_law_door", 14)]), .set 12 (.ite (.cmp .Eq (.call "_law_draw" [.var 0, .int 4]) (.int 0)) (.rev (.var 10)) (.var 10)), .ret (.tup [.str "parted", .var 11, .call "_law_pick" [.var 0, .lst [.var 11, .var 8]], .var 9, .fn .tuple [.var 12]])] [], .ite (.cmp .Eq (.var 6) (.int 3)) [.ret (.tup [.str "door", .call "_law_pick" [.var 0, .bin .Add (.var 4) (.var 2)], .var 7, .call "_law_pick" [.var 0, .bin .Add (.var 5) (.lst [.non])]])] [], .ret (.tup [.str "shut", .call "_law_pick" [.var 0, .bin .Add (.var 4) (.sl (.var 2) none (some (.int 2)))]])]
theorem try_eq : b_law_try = tA ++ tB := rfl
theorem k_try (F : Fs) (hF : F.fn "_law_draw" = some (.dk pfDraw)) (hP : F.fn "_law_pick" = some (.dk pfPick)) : Keeps F N_law_try b_law_try (.dk pfTry) := by
  intro p c ds k R h
  have sz : sizeLine = 16777216 := sizeLine_eq
  match ds, h with
  | [h, .lst xs], ⟨rs, ds, ss, ⟨hh, hH, _, _⟩, hx, hss, hrl, hdl, hk, hR⟩ =>
    subst hx
    obtain ⟨hs1, hs2, hs3⟩ := hss
    have hr := nv_strs hH.nm
    have hcal : ∀ d ∈ ds.map (fun d => D.str d.1), Nv d := fun d hd => by
      obtain ⟨e, he, rfl⟩ := List.mem_map.mp hd
      exact nv_str (hH.dn e he)
    have hnm := nv_strs hs3
    have hrne : rs.map D.str ≠ [] := by simpa using hH.ne
    have hcl : (ds.map fun d => D.str d.1).length ≤ 10 := by rw [List.length_map]; exact hdl
    have hrl2 : (rs.map D.str).length ≤ 10 := by rw [List.length_map]; exact hrl
    have hnl : (ss.map D.str).length = 20 := by rw [List.length_map]; exact hs1
    rw [try_eq]
    refine step (fun ρ' => ρ' = ⟨[some (.d (.cst (.ref p))), some (.d h), some (.d (.lst (ss.map .str))), some (.l (rs.map .str)), some (.l (ds.map fun d => D.str d.1)), none, none, none, none, none, none, none, none, none, none, none], k⟩) (fun K hK => ?_) fun ρ' e => ?_
    · subst hh
      simp? only [N_law_try, hsD]
      refine lc_map ds drD (fun d => .str d.1) (fun d hd acc Kc hz hK' => ?_) (by omega) ?_
      · simp? only [lcStep, drD]
        exact ⟨hz, hK'⟩
      · simp? only []
        exact hK _ rfl
    subst e
    generalize rs.map D.str = rooms at hr hrne hrl2 ⊢
    generalize (ds.map fun d => D.str d.1) = called at hcal hcl ⊢
    generalize ss.map D.str = nms at hnm hnl ⊢
    refine step (fun ρ' => ∃ (some' : List D) (i : Int), (∀ d ∈ some', Nv d) ∧ some' ≠ [] ∧ some'.length ≤ 40 ∧ ρ' = ⟨[some (.d (.cst (.ref p))), some (.d h), some (.d (.lst nms)), some (.l rooms), some (.l called), some (.d (.lst some')), some (.d (.int i)), none, none, none, none, none, none, none, none, none], k + 1⟩) (fun K hK => ?_) fun ρ' ⟨sm, i, hsm, hsn, hsl, e⟩ => ?_
    · have ec : cutD nms none (some 9) = nms.take 9 := by rw [cut_take _ (by omega)]; rfl
      simp? only [hF, pfDraw, ec]
      have h1 : ∀ d ∈ rooms ++ rooms ++ nms.take 9, Nv d := nv_app (nv_app hr hr) (nv_cut hnm 9)
      have h2 : (rooms ++ rooms ++ nms.take 9).length ≤ 40 := by simp only [List.length_append, List.length_take]; omega
      have h3 : rooms ++ rooms ++ nms.take 9 ≠ [] := fun z => hrne (List.append_eq_nil_iff.mp (List.append_eq_nil_iff.mp z).1).1
      have h4 : (nms.take 9).length ≤ 9 := by rw [List.length_take]; omega
      have h5 : (rooms ++ rooms).length ≤ 20 := by rw [List.length_append]; omega
      exact ⟨by omega, by omega, ⟨by omega, by omega, by omega⟩, fun i i0 i1 => ⟨by omega, hK _ ⟨_, i, h1, h3, h2, rfl⟩⟩⟩
    subst e
    refine step (fun ρ' => ρ' = ⟨[some (.d (.cst (.ref p))), some (.d h), some (.d (.lst nms)), some (.l rooms), some (.l called), some (.d (.lst sm)), some (.d (.int i)), none, none, none, none, none, none, none, none, none], k + 1⟩) (fun K hK => ?_) fun ρ' e => ?_
    · simp? only []
      exact hK _ rfl
    subst e
    refine step (fun ρ' => ∃ (x y z : D), Nv x ∧ Nv y ∧ Nv z ∧ ρ' = ⟨[some (.d (.cst (.ref p))), some (.d h), some (.d (.lst nms)), some (.l rooms), some (.l called), some (.d (.lst sm)), some (.d (.int i)), some (.d x), some (.d y), some (.d z), none, none, none, none, none, none], k + 4⟩) (fun K hK => ?_) fun ρ' ⟨x, y, z, hx, hy, hz, e⟩ => ?_
    · simp? only []
      refine ⟨⟨by omega, by decide⟩, lcg_inv (fun j acc ρ' => ρ' = ⟨[some (.d (.cst (.ref p))), some (.d h), some (.d (.lst nms)), some (.l rooms), some (.l called), some (.d (.lst sm)), some (.d (.int i)), none, none, none, none, none, none, none, none, none], k + 1 + j⟩ ∧ acc.length = j ∧ ∀ d ∈ acc, Nv d) ⟨rfl, rfl, by simp⟩ (fun j q acc ρ' Kc hq ⟨e, hal, ha⟩ hK' => ?_) fun acc ρ' ⟨e, hal, ha⟩ => ?_⟩
      · subst e
        have hj := (List.getElem?_eq_some_iff.mp hq).1
        rw [rngL_len] at hj
        have e3 : (3 : Int).toNat = 3 := rfl
        simp? only [lcStep, hP, pfPick]
        refine ⟨⟨hsn, by omega, by omega⟩, fun d hd => ⟨by omega, hK' _ _ ⟨rfl, by simp [hal], fun u hu => ?_⟩⟩⟩
        rcases List.mem_append.mp hu with hu | hu
        · exact ha u hu
        · rw [List.mem_singleton.mp hu]; exact hsm d hd
      · subst e
        rw [rngL_len] at hal ⊢
        have e3 : (3 : Int).toNat = 3 := rfl
        rw [e3] at hal ⊢
        match acc, hal, ha with
        | [x, y, z], _, ha =>
          simp? only []
          exact hK _ ⟨x, y, z, ha x (by simp), ha y (by simp), ha z (by simp), rfl⟩
    subst e
    have wj : Nv (.str (Str.ofString "joined")) := word_nv (by decide +kernel)
    have wp : Nv (.str (Str.ofString "parted")) := word_nv (by decide +kernel)
    have wd : Nv (.str (Str.ofString "door")) := word_nv (by decide +kernel)
    have ws : Nv (.str (Str.ofString "shut")) := word_nv (by decide +kernel)
    have four : ∀ {a b c d : D}, Nv a → Nv b → Nv c → Nv d → Lv 0 150 2 (.tup [a, b, c, d]) := fun {a b c d} h1 h2 h3 h4 => line_lv (fun u hu => by
      simp only [List.mem_cons, List.not_mem_nil, or_false] at hu
      rcases hu with rfl | rfl | rfl | rfl <;> assumption) (by simp)
    unfold tB
    refine step (fun ρ' => ρ' = ⟨[some (.d (.cst (.ref p))), some (.d h), some (.d (.lst nms)), some (.l rooms), some (.l called), some (.d (.lst sm)), some (.d (.int i)), some (.d x), some (.d y), some (.d z), none, none, none, none, none, none], k + 4⟩) (fun K hK => ?_) fun ρ' e => ?_
    · simp? only [wtCmp, hP, pfPick]
      by_cases h0 : i = 0
      · rw [if_pos (by simpa using h0)]
        exact ⟨⟨hrne, by omega, by omega⟩, fun d hd => ⟨by omega, hR _ _ (four wj (hr d hd) hy hz) (by omega)⟩⟩
      · rw [if_neg (by simpa using h0)]
        exact hK _ rfl
    subst e
    refine step (fun ρ' => ρ' = ⟨[some (.d (.cst (.ref p))), some (.d h), some (.d (.lst nms)), some (.l rooms), some (.l called), some (.d (.lst sm)), some (.d (.int i)), some (.d x), some (.d y), some (.d z), none, none, none, none, none, none], k + 4⟩) (fun K hK => ?_) fun ρ' e => ?_
    · simp? only [wtCmp]
      by_cases h0 : i = 1
      · rw [if_pos (by simpa using h0)]
        refine lcg_inv (fun j acc ρ' => ρ' = ⟨[some (.d (.cst (.ref p))), some (.d h), some (.d (.lst nms)), some (.l rooms), some (.d (.lst called)), some (.d (.lst sm)), some (.d (.int i)), some (.d x), some (.d y), some (.d z), none, none, none, none, none, none], k + 4 + j⟩ ∧ acc.length ≤ j ∧ ∀ d ∈ acc, Nv d) ⟨rfl, Nat.le_refl _, by simp⟩ (fun j q acc ρ' Kc hq ⟨e, hal, ha⟩ hK' => ?_) fun acc ρ' ⟨e, hal, ha⟩ => ?_
        · subst e
          have hj := (List.getElem?_eq_some_iff.mp hq).1
          have hq' := hcal q (List.mem_of_getElem? hq)
          simp? only [lcStep, wtCmp, hF, pfDraw]
          refine ⟨⟨by omega, by omega, by omega⟩, fun m m0 m1 => ?_⟩
          by_cases hm : m = 0
          · rw [if_pos (by simpa using hm)]
            refine ⟨by omega, hK' _ _ ⟨rfl, by simp; omega, fun u hu => ?_⟩⟩
            rcases List.mem_append.mp hu with hu | hu
            · exact ha u hu
            · rw [List.mem_singleton.mp hu]; exact hq'
          · rw [if_neg (by simpa using hm)]
            exact hK' _ _ ⟨rfl, by omega, ha⟩
        · subst e
          simp? only []
          exact ⟨by omega, hR _ _ (line_lvT wp hx hy hz ha (by omega)) (by omega)⟩
      · rw [if_neg (by simpa using h0)]
        exact hK _ rfl
    subst e
    refine step (fun ρ' => ρ' = ⟨[some (.d (.cst (.ref p))), some (.d h), some (.d (.lst nms)), some (.l rooms), some (.l called), some (.d (.lst sm)), some (.d (.int i)), some (.d x), some (.d y), some (.d z), none, none, none, none, none, none], k + 4⟩) (fun K hK => ?_) fun ρ' e => ?_
    · refine step_ite (fun b ρ' => ρ' = ⟨[some (.d (.cst (.ref p))), some (.d h), some (.d (.lst nms)), some (.l rooms), some (.l called), some (.d (.lst sm)), some (.d (.int i)), some (.d x), some (.d y), some (.d z), none, none, none, none, none, none], k + 4⟩) (fun K' hK' => ?_) fun b ρ' e => ?_
      · simp? only [wtCmp]
        exact hK' _ _ rfl
      subst e
      cases b with
      | false => exact hK _ rfl
      | true =>
        rw [if_pos rfl]
        refine step (fun ρ' => ∃ u, Nv u ∧ ρ' = ⟨[some (.d (.cst (.ref p))), some (.d h), some (.d (.lst nms)), some (.d (.lst rooms)), some (.l called), some (.d (.lst sm)), some (.d (.int i)), some (.d x), some (.d y), some (.d z), none, some (.d u), none, none, none, none], k + 5⟩) (fun K hK => ?_) fun ρ' ⟨u, hu, e⟩ => ?_
        · simp? only [hP, pfPick]
          exact ⟨⟨hrne, by omega, by omega⟩, fun d hd => hK _ ⟨d, hr d hd, rfl⟩⟩
        subst e
        have ud : u.isD = true := (hu.sm (by omega)).isD
        refine step (fun ρ' => ρ' = ⟨[some (.d (.cst (.ref p))), some (.d h), some (.d (.lst nms)), some (.d (.lst rooms)), some (.l called), some (.d (.lst sm)), some (.d (.int i)), some (.d x), some (.d y), some (.d z), none, some (.d u), none, none, none, none], k + 5⟩) (fun K hK => ?_) fun ρ' e => ?_
        · simp? only []
          exact hK _ rfl
        subst e
        refine step (fun ρ' => ∃ (own : List D) (kk : Nat), (∀ d ∈ own, Nv d) ∧ own.length ≤ 10 ∧ kk ≤ k + 15 ∧ ρ' = ⟨[some (.d (.cst (.ref p))), some (.d h), some (.d (.lst nms)), some (.d (.lst rooms)), some (.l called), some (.d (.lst sm)), some (.d (.int i)), some (.d x), some (.d y), some (.d z), some (.l own), some (.d u), none, none, none, none], kk⟩) (fun K hK => ?_) fun ρ' ⟨own, kk, ho, hol, hkk, e⟩ => ?_
        · rw [hh] at hK ⊢
          simp? only [hsD]
          refine lcg_inv (fun j acc ρ' => ∃ kk, kk ≤ k + 5 + j ∧ ρ' = ⟨[some (.d (.cst (.ref p))), some (.d (hsD rs ds)), some (.d (.lst nms)), some (.d (.lst rooms)), some (.l called), some (.d (.lst sm)), some (.d (.int i)), some (.d x), some (.d y), some (.d z), none, some (.d u), none, none, none, none], kk⟩ ∧ acc.length ≤ j ∧ ∀ d ∈ acc, Nv d) ⟨k + 5, by omega, rfl, Nat.le_refl _, by simp⟩ (fun j q acc ρ' Kc hq ⟨kk, hkk, e, hal, ha⟩ hK' => ?_) fun acc ρ' ⟨kk, hkk, e, hal, ha⟩ => ?_
          · subst e
            have hj := (List.getElem?_eq_some_iff.mp hq).1
            rw [List.length_map] at hj
            obtain ⟨e, he, rfl⟩ := List.mem_map.mp (List.mem_of_getElem? hq)
            have hq' := nv_str (hH.dn e he)
            have e6 : cutD [D.str e.1, D.str e.2.1, sideD e.2.2] (some 1) none = [D.str e.2.1, sideD e.2.2] := rfl
            simp? only [lcStep, wtCmp, wtAnd, drD, hF, pfDraw, e6]
            refine ⟨okIn_sd ud _ _, ?_⟩
            rw [inD_sd ud]
            cases isSide e.2 u with
            | false =>
              simp only [List.getElem?_cons_zero, List.getElem?_cons_succ, List.set_cons_zero, List.set_cons_succ, List.dropLast_cons_cons, List.dropLast_singleton, List.getLast?_cons_cons, List.getLast?_singleton, List.cons_append, List.nil_append, List.append_nil, List.reverse_cons, List.reverse_nil, Option.getD_some, Option.getD_none, Option.some.injEq, Option.bind_some, exists_eq_left', exists_eq_left, exists_eq_right, exists_and_left, true_and, and_true, if_true, if_false, reduceCtorEq, reduceIte, Bool.false_eq_true, Bool.false_xor, Bool.true_xor, List.replicate_succ, List.replicate_zero, List.length_cons, List.length_nil, Nat.zero_add, Nat.reduceAdd, Nat.reduceSub, O.d.injEq, D.int.injEq, Res.d.injEq, B.l.injEq, B.d.injEq, D.bl.injEq, D.str.injEq, D.lst.injEq, D.tup.injEq, Nat.zero_le]
              exact hK' _ _ ⟨kk, by omega, rfl, by omega, ha⟩
            | true =>
              simp only [List.getElem?_cons_zero, List.getElem?_cons_succ, List.set_cons_zero, List.set_cons_succ, List.dropLast_cons_cons, List.dropLast_singleton, List.getLast?_cons_cons, List.getLast?_singleton, List.cons_append, List.nil_append, List.append_nil, List.reverse_cons, List.reverse_nil, Option.getD_some, Option.getD_none, Option.some.injEq, Option.bind_some, exists_eq_left', exists_eq_left, exists_eq_right, exists_and_left, true_and, and_true, if_true, if_false, reduceCtorEq, reduceIte, Bool.false_eq_true, Bool.false_xor, Bool.true_xor, List.replicate_succ, List.replicate_zero, List.length_cons, List.length_nil, Nat.zero_add, Nat.reduceAdd, Nat.reduceSub, O.d.injEq, D.int.injEq, Res.d.injEq, B.l.injEq, B.d.injEq, D.bl.injEq, D.str.injEq, D.lst.injEq, D.tup.injEq, Nat.zero_le]
              refine ⟨⟨by omega, by omega, by omega⟩, fun m m0 m1 => ?_⟩
              by_cases hm : m = 0
              · rw [if_pos (by simpa using hm)]
                refine ⟨by omega, hK' _ _ ⟨kk + 1, by omega, rfl, by simp; omega, fun u hu => ?_⟩⟩
                rcases List.mem_append.mp hu with hu | hu
                · exact ha u hu
                · rw [List.mem_singleton.mp hu]; exact hq'
              · rw [if_neg (by simpa using hm)]
                exact hK' _ _ ⟨kk + 1, by omega, rfl, by omega, ha⟩
          · subst e
            rw [List.length_map] at hkk hal
            simp? only []
            exact hK _ ⟨acc, kk, ha, by omega, by omega, rfl⟩
        subst e
        simp? only [hF, pfDraw, hP, pfPick, wtCmp]
        refine ⟨⟨by omega, by omega, by omega⟩, fun m m0 m1 => ?_⟩
        have hq : ∀ q ∈ [u, y], Nv q := fun q hq => by
          simp only [List.mem_cons, List.not_mem_nil, or_false] at hq
          rcases hq with rfl | rfl <;> assumption
        have hor : ∀ d ∈ own.reverse, Nv d := fun d hd => ho d (List.mem_reverse.mp hd)
        have holr : own.reverse.length ≤ 10 := by rw [List.length_reverse]; exact hol
        by_cases hm : m = 0
        · rw [if_pos (by simpa using hm)]
          exact ⟨by omega, ⟨by simp, by decide, by omega⟩, fun q hq' => ⟨by omega, hR _ _ (line_lvT wp hu (hq q hq') hz hor holr) (by omega)⟩⟩
        · rw [if_neg (by simpa using hm)]
          exact ⟨by omega, ⟨by simp, by decide, by omega⟩, fun q hq' => ⟨by omega, hR _ _ (line_lvT wp hu (hq q hq') hz ho hol) (by omega)⟩⟩
    subst e
    simp? only [wtCmp, hP, pfPick]
    have ec : cutD nms none (some 2) = nms.take 2 := by rw [cut_take _ (by omega)]; rfl
    by_cases h0 : i = 3
    · rw [if_pos (by simpa using h0)]
      have hcn := nv_app hcal hnm
      have hsn2 := nv_app hsm (show ∀ d ∈ [D.non], Nv d from fun d hd => by rw [List.mem_singleton.mp hd]; exact nv_non)
      have hne : called ++ nms ≠ [] := fun z => by
        have := congrArg List.length z
        rw [List.length_append, hnl] at this
        simp at this
      refine ⟨by omega, ⟨hne, by rw [List.length_append]; omega, by omega⟩, fun q hq => ⟨by omega, by omega, ⟨by simp, by rw [List.length_append]; simp; omega, by omega⟩, fun r hr' => ⟨by omega, hR _ _ (four wd (hcn q hq) hx (hsn2 r hr')) (by omega)⟩⟩⟩
    · rw [if_neg (by simpa using h0), ec]
      have hl2 : (nms.take 2).length = 2 := by rw [List.length_take]; omega
      have hcn := nv_app hcal (nv_cut hnm 2)
      have hne : called ++ nms.take 2 ≠ [] := fun z => by
        have := congrArg List.length z
        rw [List.length_append, hl2] at this
        simp at this
      refine ⟨by omega, ⟨hne, by rw [List.length_append]; omega, by omega⟩, fun q hq => ⟨by omega, hR _ _ (line_lv (fun u hu => ?_) (by simp)) (by omega)⟩⟩
      simp only [List.mem_cons, List.not_mem_nil, or_false] at hu
      rcases hu with rfl | rfl
      · exact ws
      · exact hcn _ hq
set_option maxRecDepth 100000
set_option maxHeartbeats 4000000
def rs0 : List Str := ["a", "b", "c"].map Str.ofString
def ds0 : List Dr := [(Str.ofString "a", Str.ofString "a", some (Str.ofString "b")), (Str.ofString "d", Str.ofString "b", some (Str.ofString "c")), (Str.ofString "e", Str.ofString "b", none)]
theorem house0 : House rs0 ds0 := ⟨by decide, by decide +kernel, (asc_iff _).mp (by decide +kernel), by decide +kernel, (asc_iff _).mp (by decide +kernel), by decide +kernel⟩
def deSide : D → Option (Option Str)
  | .non => some none
  | .str x => some (some x)
  | _ => none
def deDr : D → Option Dr
  | .tup [.str n, .str a, s] => (deSide s).map fun s => (n, a, s)
  | _ => none
def deDrs : List D → Option (List Dr)
  | [] => some []
  | x :: xs => match deDr x, deDrs xs with
    | some d, some ds => some (d :: ds)
    | _, _ => none
theorem deDr_eq {x : D} {d : Dr} (h : deDr x = some d) : x = drD d := by
  unfold deDr at h
  split at h
  · rename_i n a s
    cases s <;> simp [deSide] at h <;> subst h <;> rfl
  · cases h
theorem deDrs_eq : ∀ {xs : List D} {ds : List Dr}, deDrs xs = some ds → xs = ds.map drD
  | [], _, h => by cases h; rfl
  | x :: xs, ds, h => by
    unfold deDrs at h
    split at h
    · rename_i e1 e2
      cases h
      rw [deDr_eq e1, deDrs_eq e2]; rfl
    · cases h
def smB (B n k : Nat) (d : D) : Bool := d.isD && d.py.showable && d.py.leavesShort B && decide (d.py.bulk ≤ n) && decide (d.py.depth ≤ k)
def chkH : D → Bool
  | .tup [.tup [.tup r, .tup s], d, .bl b] => decide (strsD r = some rs0) && decide (deDrs s = some ds0) && (isLn rs0 ds0 d == b) && smB 43 4000 30 d && em d.py && smB 43 4000 30 (.tup [.tup [.tup r, .tup s], d])
  | _ => false
theorem smT {B n k : Nat} {d : D} (h : smB B n k d = true) : Sm B n k d := by
  simp only [smB, Bool.and_eq_true, decide_eq_true_eq] at h
  exact ⟨h.1.1.1.1, h.1.1.1.2, h.1.1.2, h.1.2, h.2⟩
theorem chkH_ok {x : D} (h : chkH x = true) : ∃ hd d, x = .tup [hd, d, .bl (isLn rs0 ds0 d)] ∧ HsD hd rs0 ds0 ∧ Tv d ∧ Sv (.tup [hd, d]) := by
  unfold chkH at h
  split at h
  · rename_i r s d b
    simp only [Bool.and_eq_true, decide_eq_true_eq, beq_iff_eq] at h
    obtain ⟨⟨⟨⟨⟨h1, h2⟩, h3⟩, h4⟩, h5⟩, h6⟩ := h
    have e1 := strsD_eq h1
    have e2 := deDrs_eq h2
    subst e1 e2 h3
    exact ⟨_, d, rfl, ⟨rfl, house0, by decide, by decide⟩, ⟨smT h4, h5⟩, smT h6⟩
  · cases h
def h0 : D := .tup [.tup [.str (Str.ofString "a"), .str (Str.ofString "b"), .str (Str.ofString "c")], .tup [.tup [.str (Str.ofString "a"), .str (Str.ofString "a"), .str (Str.ofString "b")], .tup [.str (Str.ofString "d"), .str (Str.ofString "b"), .str (Str.ofString "c")], .tup [.str (Str.ofString "e"), .str (Str.ofString "b"), .non]]]
def chkQ : D → Bool
  | .tup [d, b] => chkH (.tup [h0, d, b])
  | _ => false
theorem chkQ_h {x : D} (h : chkQ x = true) : ∃ d b, x = .tup [d, b] ∧ chkH (.tup [h0, d, b]) = true := by
  unfold chkQ at h
  split at h
  · exact ⟨_, _, rfl, h⟩
  · cases h
def toH : D → D
  | .tup [d, b] => .tup [h0, d, b]
  | d => d
def pfHand : List D → (Res → Prop) → Prop
  | [], R => ∀ xs : List D, xs.length ≤ 100 → (∀ x ∈ xs, chkH x = true) → R (.l xs)
  | _, _ => False
theorem allQ {xs : List D} (h : xs.all chkQ = true) : ∀ x ∈ xs, chkQ x = true := List.all_eq_true.mp h
def h0s : IS := .set 0 (.tup [.tup [.str "a", .str "b", .str "c"], .tup [.tup [.str "a", .str "a", .str "b"], .tup [.str "d", .str "b", .str "c"], .tup [.str "e", .str "b", .non]]])
def h1s : IS := .set 1 (.lc (.tup [.tup [.str "joined", .str "a", .str "b", .var 5], .cmp .NotEq (.var 5) (.str "c")]) (.nm 5) 0 [.tup [.str "a", .str "b", .str "c", .str "d", .str "z"]] [] [("_law_new", 5)])
def h2s : IS := .set 1 (.bin .Add (.var 1) (.lst [.tup [.tup [.str "joined", .str "a", .str "a", .str "z"], .bl false], .tup [.tup [.str "joined", .str "b", .str "a", .str "a"], .bl true]]))
def h3s : IS := .set 1 (.bin .Add (.var 1) (.lc (.tup [.tup [.str "parted", .str "b", .var 3, .var 4, .tup []], .bl true]) (.tup [.nm 3, .nm 4]) 0 [.tup [.tup [.str "b", .str "z"], .tup [.str "z", .str "b"], .tup [.str "x", .str "y"]]] [] [("_law_one", 3), ("_law_far", 4)]))
def h4s : IS := .set 1 (.bin .Add (.var 1) (.lc (.tup [.tup [.str "parted", .str "b", .var 3, .var 4, .tup []], .bl false]) (.tup [.nm 3, .nm 4]) 0 [.tup [.tup [.str "b", .str "b"], .tup [.str "a", .str "b"], .tup [.str "z", .str "c"]]] [] [("_law_one", 3), ("_law_far", 4)]))
def h5s : IS := .for_ (.nm 2) 0 [.tup [.tup [], .tup [.str "a"], .tup [.str "a", .str "d"], .tup [.str "a", .str "d", .str "e"], .tup [.str "e"]]] [.drop (.app 1 (.tup [.tup [.str "parted", .str "b", .str "b", .str "z", .var 2], .bl true]))]
def h6s : IS := .for_ (.nm 2) 0 [.tup [.tup [.str "d", .str "a"], .tup [.str "a", .str "a"], .tup [.str "z"], .lst [.str "a"], .str "a", .non]] [.drop (.app 1 (.tup [.tup [.str "parted", .str "b", .str "b", .str "z", .var 2], .bl false]))]
def h7s : IS := .set 1 (.bin .Add (.var 1) (.lst [.tup [.tup [.str "parted", .str "a", .str "a", .str "z", .tup [.str "d"]], .bl false], .tup [.tup [.str "parted", .str "z", .str "x", .str "y", .tup []], .bl false]]))
def h8s : IS := .set 1 (.bin .Add (.var 1) (.lst [.tup [.tup [.str "door", .str "b", .str "a", .str "b"], .bl true], .tup [.tup [.str "door", .str "z", .str "c", .non], .bl true], .tup [.tup [.str "shut", .str "e"], .bl true]]))
def h9s : IS := .for_ (.tup [.nm 3, .nm 4]) 0 [.tup [.tup [.str "b", .str "a"], .tup [.str "a", .str "a"], .tup [.non, .str "a"], .tup [.str "z", .non]]] [.drop (.app 1 (.tup [.tup [.str "door", .str "z", .var 3, .var 4], .bl false]))]
def h10s : IS := .set 1 (.bin .Add (.var 1) (.lst [.tup [.tup [.str "door", .str "a", .str "a", .str "b"], .bl false], .tup [.tup [.str "shut", .str "b"], .bl false]]))
def h11s : IS := .frz 0
def h12s : IS := .ret (.lc (.tup [.var 0, .var 6, .var 7]) (.tup [.nm 6, .nm 7]) 0 [.var 1] [] [("_law_line", 6), ("_law_is_so", 7)])
theorem hand_eq : b_law_by_hand = [h0s, h1s, h2s, h3s, h4s, h5s, h6s, h7s, h8s, h9s, h10s, h11s, h12s] := rfl
theorem k_hand (F : Fs) : Keeps F N_law_by_hand b_law_by_hand (.pu pfHand) := by
  intro ds R h
  have sz : sizeLine = 16777216 := sizeLine_eq
  match ds, h with
  | [], hR =>
    rw [hand_eq]
    refine step (fun ρ' => ρ' = ⟨[some (.d h0), none, none, none, none, none, none, none], 0⟩) (fun K hK => ?_) fun ρ' e => ?_
    · simp? only [h0s, N_law_by_hand, sizeLine_eq, Nat.reduceLeDiff]
      exact hK _ rfl
    subst e
    refine step (fun ρ' => ∃ (L : List D) (x2 x3 x4 : Option B), (∀ x ∈ L, chkQ x = true) ∧ L.length ≤ 9 ∧ ρ' = ⟨[some (.d h0), some (.l L), x2, x3, x4, none, none, none], 0⟩) (fun K hK => ?_) fun ρ' ⟨L, x2, x3, x4, hL, hl, e⟩ => ?_
    · simp? only [h1s, sizeLine_eq, Nat.reduceLeDiff, forGo, lcGo, Nat.reduceLT, exists_eq']
      repeat refine ⟨by (first | omega | (simp only [List.length_append, List.length_cons, List.length_nil]; omega)), ?_⟩
      refine hK _ ⟨_, _, _, _, ?_, ?_, rfl⟩
      · repeat first | exact hL | exact allQ (by decide +kernel) | refine all_app ?_ (allQ (by decide +kernel))
      · simp only [List.length_append, List.length_cons, List.length_nil]; omega
    subst e
    refine step (fun ρ' => ∃ (L : List D) (x2 x3 x4 : Option B), (∀ x ∈ L, chkQ x = true) ∧ L.length ≤ 18 ∧ ρ' = ⟨[some (.d h0), some (.l L), x2, x3, x4, none, none, none], 0⟩) (fun K hK => ?_) fun ρ' ⟨L, x2, x3, x4, hL, hl, e⟩ => ?_
    · simp? only [h2s, sizeLine_eq, Nat.reduceLeDiff, forGo, lcGo, Nat.reduceLT, exists_eq']
      repeat refine ⟨by (first | omega | (simp only [List.length_append, List.length_cons, List.length_nil]; omega)), ?_⟩
      refine hK _ ⟨_, _, _, _, ?_, ?_, rfl⟩
      · repeat first | exact hL | exact allQ (by decide +kernel) | refine all_app ?_ (allQ (by decide +kernel))
      · simp only [List.length_append, List.length_cons, List.length_nil]; omega
    subst e
    refine step (fun ρ' => ∃ (L : List D) (x2 x3 x4 : Option B), (∀ x ∈ L, chkQ x = true) ∧ L.length ≤ 27 ∧ ρ' = ⟨[some (.d h0), some (.l L), x2, x3, x4, none, none, none], 0⟩) (fun K hK => ?_) fun ρ' ⟨L, x2, x3, x4, hL, hl, e⟩ => ?_
    · simp? only [h3s, sizeLine_eq, Nat.reduceLeDiff, forGo, lcGo, Nat.reduceLT, exists_eq']
      repeat refine ⟨by (first | omega | (simp only [List.length_append, List.length_cons, List.length_nil]; omega)), ?_⟩
      refine hK _ ⟨_, _, _, _, ?_, ?_, rfl⟩
      · repeat first | exact hL | exact allQ (by decide +kernel) | refine all_app ?_ (allQ (by decide +kernel))
      · simp only [List.length_append, List.length_cons, List.length_nil]; omega
    subst e
    refine step (fun ρ' => ∃ (L : List D) (x2 x3 x4 : Option B), (∀ x ∈ L, chkQ x = true) ∧ L.length ≤ 36 ∧ ρ' = ⟨[some (.d h0), some (.l L), x2, x3, x4, none, none, none], 0⟩) (fun K hK => ?_) fun ρ' ⟨L, x2, x3, x4, hL, hl, e⟩ => ?_
    · simp? only [h4s, sizeLine_eq, Nat.reduceLeDiff, forGo, lcGo, Nat.reduceLT, exists_eq']
      repeat refine ⟨by (first | omega | (simp only [List.length_append, List.length_cons, List.length_nil]; omega)), ?_⟩
      refine hK _ ⟨_, _, _, _, ?_, ?_, rfl⟩
      · repeat first | exact hL | exact allQ (by decide +kernel) | refine all_app ?_ (allQ (by decide +kernel))
      · simp only [List.length_append, List.length_cons, List.length_nil]; omega
    subst e
    refine step (fun ρ' => ∃ (L : List D) (x2 x3 x4 : Option B), (∀ x ∈ L, chkQ x = true) ∧ L.length ≤ 45 ∧ ρ' = ⟨[some (.d h0), some (.l L), x2, x3, x4, none, none, none], 0⟩) (fun K hK => ?_) fun ρ' ⟨L, x2, x3, x4, hL, hl, e⟩ => ?_
    · simp? only [h5s, sizeLine_eq, Nat.reduceLeDiff, forGo, lcGo, Nat.reduceLT, exists_eq']
      repeat refine ⟨by (first | omega | (simp only [List.length_append, List.length_cons, List.length_nil]; omega)), ?_⟩
      refine hK _ ⟨_, _, _, _, ?_, ?_, rfl⟩
      · repeat first | exact hL | exact allQ (by decide +kernel) | refine all_app ?_ (allQ (by decide +kernel))
      · simp only [List.length_append, List.length_cons, List.length_nil]; omega
    subst e
    refine step (fun ρ' => ∃ (L : List D) (x2 x3 x4 : Option B), (∀ x ∈ L, chkQ x = true) ∧ L.length ≤ 54 ∧ ρ' = ⟨[some (.d h0), some (.l L), x2, x3, x4, none, none, none], 0⟩) (fun K hK => ?_) fun ρ' ⟨L, x2, x3, x4, hL, hl, e⟩ => ?_
    · simp? only [h6s, sizeLine_eq, Nat.reduceLeDiff, forGo, lcGo, Nat.reduceLT, exists_eq']
      repeat refine ⟨by (first | omega | (simp only [List.length_append, List.length_cons, List.length_nil]; omega)), ?_⟩
      refine hK _ ⟨_, _, _, _, ?_, ?_, rfl⟩
      · repeat first | exact hL | exact allQ (by decide +kernel) | refine all_app ?_ (allQ (by decide +kernel))
      · simp only [List.length_append, List.length_cons, List.length_nil]; omega
    subst e
    refine step (fun ρ' => ∃ (L : List D) (x2 x3 x4 : Option B), (∀ x ∈ L, chkQ x = true) ∧ L.length ≤ 63 ∧ ρ' = ⟨[some (.d h0), some (.l L), x2, x3, x4, none, none, none], 0⟩) (fun K hK => ?_) fun ρ' ⟨L, x2, x3, x4, hL, hl, e⟩ => ?_
    · simp? only [h7s, sizeLine_eq, Nat.reduceLeDiff, forGo, lcGo, Nat.reduceLT, exists_eq']
      repeat refine ⟨by (first | omega | (simp only [List.length_append, List.length_cons, List.length_nil]; omega)), ?_⟩
      refine hK _ ⟨_, _, _, _, ?_, ?_, rfl⟩
      · repeat first | exact hL | exact allQ (by decide +kernel) | refine all_app ?_ (allQ (by decide +kernel))
      · simp only [List.length_append, List.length_cons, List.length_nil]; omega
    subst e
    refine step (fun ρ' => ∃ (L : List D) (x2 x3 x4 : Option B), (∀ x ∈ L, chkQ x = true) ∧ L.length ≤ 72 ∧ ρ' = ⟨[some (.d h0), some (.l L), x2, x3, x4, none, none, none], 0⟩) (fun K hK => ?_) fun ρ' ⟨L, x2, x3, x4, hL, hl, e⟩ => ?_
    · simp? only [h8s, sizeLine_eq, Nat.reduceLeDiff, forGo, lcGo, Nat.reduceLT, exists_eq']
      repeat refine ⟨by (first | omega | (simp only [List.length_append, List.length_cons, List.length_nil]; omega)), ?_⟩
      refine hK _ ⟨_, _, _, _, ?_, ?_, rfl⟩
      · repeat first | exact hL | exact allQ (by decide +kernel) | refine all_app ?_ (allQ (by decide +kernel))
      · simp only [List.length_append, List.length_cons, List.length_nil]; omega
    subst e
    refine step (fun ρ' => ∃ (L : List D) (x2 x3 x4 : Option B), (∀ x ∈ L, chkQ x = true) ∧ L.length ≤ 81 ∧ ρ' = ⟨[some (.d h0), some (.l L), x2, x3, x4, none, none, none], 0⟩) (fun K hK => ?_) fun ρ' ⟨L, x2, x3, x4, hL, hl, e⟩ => ?_
    · simp? only [h9s, sizeLine_eq, Nat.reduceLeDiff, forGo, lcGo, Nat.reduceLT, exists_eq']
      repeat refine ⟨by (first | omega | (simp only [List.length_append, List.length_cons, List.length_nil]; omega)), ?_⟩
      refine hK _ ⟨_, _, _, _, ?_, ?_, rfl⟩
      · repeat first | exact hL | exact allQ (by decide +kernel) | refine all_app ?_ (allQ (by decide +kernel))
      · simp only [List.length_append, List.length_cons, List.length_nil]; omega
    subst e
    refine step (fun ρ' => ∃ (L : List D) (x2 x3 x4 : Option B), (∀ x ∈ L, chkQ x = true) ∧ L.length ≤ 90 ∧ ρ' = ⟨[some (.d h0), some (.l L), x2, x3, x4, none, none, none], 0⟩) (fun K hK => ?_) fun ρ' ⟨L, x2, x3, x4, hL, hl, e⟩ => ?_
    · simp? only [h10s, sizeLine_eq, Nat.reduceLeDiff, forGo, lcGo, Nat.reduceLT, exists_eq']
      repeat refine ⟨by (first | omega | (simp only [List.length_append, List.length_cons, List.length_nil]; omega)), ?_⟩
      refine hK _ ⟨_, _, _, _, ?_, ?_, rfl⟩
      · repeat first | exact hL | exact allQ (by decide +kernel) | refine all_app ?_ (allQ (by decide +kernel))
      · simp only [List.length_append, List.length_cons, List.length_nil]; omega
    subst e
    simp? only [h11s, h12s]
    refine lcg_map toH (fun x hx acc Kc hz hK => ?_) (by omega) ?_
    · obtain ⟨d, b, rfl, _⟩ := chkQ_h (hL x hx)
      simp? only [lcStep]
      exact ⟨by omega, hz, hK⟩
    · simp? only []
      refine hR _ (by rw [List.length_map]; omega) fun x hx => ?_
      obtain ⟨y, hy, rfl⟩ := List.mem_map.mp hx
      obtain ⟨d, b, rfl, h⟩ := chkQ_h (hL y hy)
      exact h
set_option maxRecDepth 100000
set_option maxHeartbeats 4000000
theorem strs_lv {ss : List Str} (h : ∀ x ∈ ss, nameS x = true) : LvL 0 (9 * ss.length) 0 (ss.map .str) := by
  have := nvs (nv_strs h)
  rw [List.length_map] at this
  exact this
theorem drs_lv {rs : List Str} {ds : List Dr} (hr : ∀ x ∈ rs, nameS x = true) (hn : ∀ d ∈ ds, nameS d.1 = true) (hs : ∀ d ∈ ds, sdOk rs d.2.1 d.2.2 = true) : LvL 0 (28 * ds.length) 1 (ds.map drD) := by
  induction ds with
  | nil => exact LvL.nil.mono (Nat.le_refl _) (Nat.le_refl _) (by omega)
  | cons d ds ih =>
    obtain ⟨n, a, b⟩ := d
    have h1 := hn _ List.mem_cons_self
    have h2 := hs _ List.mem_cons_self
    have ha : nameS a = true ∧ Nv (sideD b) := by
      cases b with
      | none => simp only [sdOk, decide_eq_true_eq] at h2; exact ⟨hr _ h2, nv_non⟩
      | some b =>
        simp only [sdOk, decide_eq_true_eq, Bool.and_eq_true] at h2
        exact ⟨hr _ h2.1.1, nv_str (hr _ h2.1.2)⟩
    have l1 : LvL 0 27 0 [D.str n, D.str a, sideD b] := (nvs (xs := [D.str n, D.str a, sideD b]) (fun x hx => by
      simp only [List.mem_cons, List.not_mem_nil, or_false] at hx
      rcases hx with rfl | rfl | rfl
      · exact nv_str h1
      · exact nv_str ha.1
      · exact ha.2)).mono (Nat.le_refl _) (by simp) (Nat.le_refl _)
    have := (l1.tup.one).app (ih (fun d hd => hn d (List.mem_cons_of_mem _ hd)) (fun d hd => hs d (List.mem_cons_of_mem _ hd)))
    refine (show LvL 0 _ 1 ([drD (n, a, b)] ++ ds.map drD) from this).mono (Nat.le_refl _) ?_ (Nat.le_refl _)
    rw [List.length_cons]; omega
theorem house_lv {rs : List Str} {ds : List Dr} (h : House rs ds) : Lv 0 (9 * rs.length + 28 * ds.length + 2) 3 (hsD rs ds) := by
  have h1 := (strs_lv h.nm).tup
  have h2 := (drs_lv h.nm h.dn h.sd).tup
  have := ((h1.mono (n' := 2) (Nat.le_refl _) (Nat.le_refl _) (by omega)).one.app h2.one).tup
  exact (show Lv 0 _ 3 (.tup ([.tup (rs.map .str)] ++ [.tup (ds.map drD)])) from this).mono (Nat.le_refl _) (by omega) (Nat.le_refl _)
theorem lv_sv {c m n : Nat} {d : D} (h : Lv c m n d) (hc : c ≤ 100) (hm : m ≤ 4000) (hn : n ≤ 30) : Sv d := (h.sm hc).mono hm hn
mutual
theorem lf_em {c : Nat} : ∀ d : D, lf c d = true → em d.py = true
  | .non, _ => by simp [D.py, em]
  | .bl _, _ => by simp [D.py, em]
  | .int _, _ => by simp [D.py, em]
  | .str _, _ => by simp [D.py, em]
  | .lst xs, h => by
    simp only [D.py, em]
    exact lfL_em xs (by simpa only [lf] using h)
  | .tup xs, h => by
    simp only [D.py, em]
    exact lfL_em xs (by simpa only [lf] using h)
  | .dic ks xs, h => by
    simp only [lf, Bool.and_eq_true, List.isEmpty_iff] at h
    obtain ⟨rfl, rfl⟩ := h
    rfl
  | .dit _ _, h => by cases h
  | .ins _ _ _, h => by cases h
  | .cst _, h => by cases h
theorem lfL_em {c : Nat} : ∀ xs : List D, lfL c xs = true → emA (D.pyL xs) = true
  | [], _ => rfl
  | x :: xs, h => by
    simp only [lfL, Bool.and_eq_true] at h
    simp only [D.pyL, emA, lf_em x h.1, lfL_em xs h.2, Bool.and_self]
end
theorem lv_tv {c m n : Nat} {d : D} (h : Lv c m n d) (hc : c ≤ 100) (hm : m ≤ 4000) (hn : n ≤ 30) : Tv d := ⟨lv_sv h hc hm hn, lf_em d h.lf⟩
theorem lv_pair {c m n m' n' : Nat} {a b : D} (h : Lv 0 m n a) (g : Lv c m' n' b) (hc : c ≤ 100) (hm : m + m' ≤ 3900) (hn : n ≤ 20) (hn' : n' ≤ 20) : Sv (.tup [a, b]) := by
  have h1 := (h.mono (c' := c) (n' := 20) (Nat.zero_le _) (Nat.le_refl _) hn).one
  have h2 := (g.mono (n' := 20) (Nat.le_refl _) (Nat.le_refl _) hn').one
  exact lv_sv (show Lv c _ 21 (.tup ([a] ++ [b])) from (h1.app h2).tup) hc (by omega) (by omega)
theorem okNe_bl (a b : Bool) : okNe (.bl a) (.bl b) = true := by
  simp [okNe, D.flat, D.isD, D.py, PyData.plain, PyData.depth]
theorem eq_blS (a : Bool) : (D.bl a).eq (.bl a) = true := by
  simp [D.eq, D.py, eqd, PyData.eqv]
theorem k_law (F : Fs) (hL : F.fn "is_line" = some (.pu pfLine)) (hSo : F.fn "_law_so" = some (.pu pfSo)) (hHd : F.fn "_law_by_hand" = some (.pu pfHand)) (hNs : F.fn "_law_names" = some (.dk pfNames)) (hH : F.fn "_law_house" = some (.dk pfHouse)) (hT : F.fn "_law_try" = some (.dk pfTry)) (hBt : F.fn "_law_bent" = some (.dk (pfBent 3))) :
    ∀ p c a, IS.sms F (some (p, c)) b_law ⟨some (.d (.cst (.ref a))) :: some (.d (.cst (.ref p))) :: List.replicate (N_law.length - 2) none, 0⟩ (retC fun r _ => r = .d (.bl true)) := by
  intro p c a
  have sz : sizeLine = 16777216 := sizeLine_eq
  have eN : N_law.length - 2 = 6 := by decide
  rw [eN]
  refine step (fun ρ' => ∃ (x2 x3 x4 : Option D), ρ' = ⟨[some (.d (.cst (.ref a))), some (.d (.cst (.ref p))), x2.map .d, x3.map .d, x4.map .d, none, none, none], 0⟩) (fun K hK => ?_) fun ρ' ⟨x2, x3, x4, e⟩ => ?_
  · simp? only [hHd, pfHand]
    refine fun xs hxl hxs => ?_
    refine for_inv (fun i ρ => ∃ (x2 x3 x4 : Option D), ρ = ⟨[some (.d (.cst (.ref a))), some (.d (.cst (.ref p))), x2.map .d, x3.map .d, x4.map .d, none, none, none], 0⟩) ⟨none, none, none, rfl⟩ (fun i x ρ Kn hx ⟨x2, x3, x4, e⟩ hK' => ?_) fun ρ ⟨x2, x3, x4, e⟩ => hK _ ⟨x2, x3, x4, e⟩
    subst e
    obtain ⟨hd, d, rfl, h1, h2, h3⟩ := chkH_ok (hxs x (List.mem_of_getElem? hx))
    simp? only [hL, hSo, pfLine, pfSo, wtOr, wtCmp, wtNot, wtv, zne_g]
    refine ⟨rs0, ds0, h1, h2.1, okNe_bl _ _, ?_⟩
    rw [eq_blS]
    simp? only [Bool.not_true]
    exact ⟨rs0, ds0, h1, h2, h3, hK' _ ⟨some _, some _, some _, rfl⟩⟩
  subst e
  simp? only [hSo, hNs, hH, hT, hBt]
  refine ⟨⟨by decide, by decide⟩, for_inv (fun i ρ => ∃ (x2 x3 x4 x5 x6 x7 : Option D) (kk : Nat), ρ = ⟨[some (.d (.cst (.ref a))), some (.d (.cst (.ref p))), x2.map .d, x3.map .d, x4.map .d, x5.map .d, x6.map .d, x7.map .d], kk⟩ ∧ kk ≤ 10000 * i)
    ⟨x2, x3, x4, none, none, none, 0, rfl, Nat.le_refl _⟩ (fun i x ρ Kn hx ⟨x2, x3, x4, x5, x6, x7, kk, e, hk⟩ hK => ?_) fun ρ ⟨x2, x3, x4, x5, x6, x7, kk, e, hk⟩ => ?_⟩
  · subst e
    obtain ⟨hi, rfl⟩ := rngL_get hx
    have hi6 : i < 6 := by have : Int.toNat 6 = 6 := rfl
                           omega
    simp? only [pfNames]
    refine ⟨⟨by decide, by decide, by omega⟩, fun w hw f hf => ?_⟩
    have e20 : Int.toNat 20 = 20 := rfl
    rw [e20]
    have hnm := names_ok hw hf
    generalize nameList w f 20 = ss at hnm
    refine ⟨ss, rfl, hnm, ⟨by decide, by decide, by decide, by decide, by omega⟩, fun rs ds k' hh hr hd hrl hdl hk' => ?_⟩
    have hlv := house_lv hh
    have hsd : HsD (hsD rs ds) rs ds := ⟨rfl, hh, by omega, by omega⟩
    have hav : ∀ {c m q : Nat} {d : D}, Lv c m q d → c ≤ 50 → m ≤ 2000 → q ≤ 10 → Tv d ∧ Sv (.tup [hsD rs ds, d]) := fun {c m q d} h h1 h2 h3 => ⟨lv_tv h (by omega) (by omega) (by omega), lv_pair hlv h (by omega) (by omega) (by decide) (by omega)⟩
    simp? only []
    refine ⟨⟨by decide, by decide⟩, for_inv (fun j ρ => ∃ (x3 x7 : Option D) (k2 : Nat), ρ = ⟨[some (.d (.cst (.ref a))), some (.d (.cst (.ref p))), some (.d (hsD rs ds)), x3.map .d, x4.map .d, some (.d (.int (0 + i))), some (.d (.lst (ss.map .str))), x7.map .d], k2⟩ ∧ k2 ≤ k' + 200 * j)
      ⟨x3, x7, k', rfl, Nat.le_refl _⟩ (fun j x ρ Kn' hx ⟨x3, x7, k2, e, hk2⟩ hK' => ?_) fun ρ ⟨x3, x7, k2, e, hk2⟩ => ?_⟩
    · subst e
      obtain ⟨hj, rfl⟩ := rngL_get hx
      have hj30 : j < 30 := by have : Int.toNat 30 = 30 := rfl
                               omega
      simp? only [pfTry]
      refine ⟨rs, ds, hsd, ss, rfl, hnm, by omega, by omega, by omega, fun d k3 hd hk3 => ?_⟩
      obtain ⟨t1, t2⟩ := hav hd (by omega) (by omega) (by omega)
      simp? only [wtOr, wtNot, wtv, pfSo, pfBent, Bool.not_true]
      refine ⟨rs, ds, hsd, t1, t2, 150, 0, 2, by omega, hd, by omega, by omega, by omega, fun d1 k4 hd1 hk4 => ?_⟩
      obtain ⟨u1, u2⟩ := hav hd1 (by omega) (by omega) (by omega)
      refine ⟨rs, ds, hsd, u1, u2, 150, 0, 2, by omega, hd, by omega, by omega, by omega, fun d2 k5 hd2 hk5 => ?_⟩
      refine ⟨3 * 150 + 100, 1, 3, by omega, hd2, by omega, by omega, by omega, fun d3 k6 hd3 hk6 => ?_⟩
      obtain ⟨v1, v2⟩ := hav hd3 (by omega) (by omega) (by omega)
      exact ⟨rs, ds, hsd, v1, v2, hK' _ ⟨some _, some _, _, rfl, by omega⟩⟩
    · subst e
      have el : Int.toNat 30 = 30 := rfl
      rw [rngL_len, el] at hk2
      simp? only []
      exact hK _ ⟨some _, x3, x4, some _, some _, x7, _, rfl, by omega⟩
  · subst e
    simp? only []
end Q
set_option maxRecDepth 100000
set_option maxHeartbeats 4000000
/-! Pz, part 37: what a written table says. -/
namespace Pz
open PySem L2 PySem.Spec PyProof.Rows
structure Row where
  w : Str
  m : Nat
  i : FnI
  h : Int
  t : Tok
  p : Addr
  f : Addr
def Row.ent (r : Row) : DictEntry := ⟨r.h, .str r.w r.t, .ref r.p⟩
theorem rows_find (z : Str) : ∀ rows : List Row, (rows.map Row.ent).find? (·.key.isStr z) = (rows.find? fun r => decide (r.w = z)).map Row.ent
  | [] => rfl
  | r :: rows => by
    rw [List.map_cons, List.find?_cons, List.find?_cons, rows_find z rows]
    have e : (Row.ent r).key.isStr z = decide (r.w = z) := by
      show (Value.str r.w r.t).isStr z = _
      rw [Bool.eq_iff_iff]
      simp [Value.isStr]
    rw [e]
    cases decide (r.w = z) <;> rfl
theorem rows_ref : ∀ rows : List Row, (rows.map Row.ent).any (·.refKey) = false
  | [] => rfl
  | r :: rows => by rw [List.map_cons, List.any_cons, rows_ref rows]; rfl
theorem rows_look (z : Str) : ∀ rows : List Row, List.lookup z (rows.map fun r => (r.w, r.m, r.i)) = (rows.find? fun r => decide (r.w = z)).map fun r => (r.m, r.i)
  | [] => rfl
  | r :: rows => by
    rw [List.map_cons, List.lookup_cons, List.find?_cons, rows_look z rows]
    by_cases h : r.w = z
    · subst h; simp
    · have h1 : (z == r.w) = false := beq_eq_false_iff_ne.mpr (Ne.symm h)
      rw [h1, decide_eq_false h]
theorem rows_lit {P : Params} : ∀ rows : List Row, (∀ r ∈ rows, r.h = PyData.keyHash P r.w) → PySem.W.KeysLit P (rows.map Row.ent)
  | [], _ => trivial
  | r :: rows, h => ⟨⟨r.w, r.t, rfl, h r List.mem_cons_self⟩, rows_lit rows fun q hq => h q (List.mem_cons_of_mem _ hq)⟩
theorem ktab_rows {Γ : Gam} {x : Str} {a : Addr} {n : Nat} (rows : List Row) (hm : Γ.mg x = some (.ref a)) (hl : Γ.K.lookup a = some ⟨.type "dict", none, .dict (rows.map Row.ent).toArray n, #[]⟩) (low : (a == sysModules) = false)
    (hr : ∀ r ∈ rows, r.h = PyData.keyHash Γ.w.params r.w ∧ (∃ (o : Obj) (its : Array Value) (q : Nat) (tk : Tok), Γ.K.lookup r.p = some o ∧ o.cls = .type "tuple" ∧ o.data = .seq its q ∧ its.toList = [.int (r.m : Int) tk, .ref r.f]) ∧ HasF Γ r.f r.i) : KTab Γ x (rows.map fun r => (r.w, r.m, r.i)) := by
  have ns : ∀ z, PySem.W.nsIn Γ.K a z = (match rows.find? fun r => decide (r.w = z) with
    | some r => some (some (.ref r.p))
    | none => some none) := fun z => by
    unfold PySem.W.nsIn
    rw [hl]
    show (match ((rows.map Row.ent).toArray.toList.find? (·.key.isStr z)) with
      | some e => some (some e.val)
      | none => if (rows.map Row.ent).toArray.toList.any (·.refKey) then none else some none) = _
    have et : (rows.map Row.ent).toArray.toList = rows.map Row.ent := by simp
    rw [et, rows_find, rows_ref]
    cases rows.find? fun r => decide (r.w = z) <;> rfl
  refine ktab_mk hm hl (by have et : (rows.map Row.ent).toArray.toList = rows.map Row.ent := by simp
                           rw [et]; exact rows_lit rows fun r h => (hr r h).1) low fun z => ?_
  rw [ns, rows_look]
  cases hf : rows.find? fun r => decide (r.w = z) with
  | none => exact ⟨fun _ => rfl, fun m i h => by cases h⟩
  | some r =>
    refine ⟨fun h => (by cases h), fun m i h => ?_⟩
    cases h
    obtain ⟨_, ⟨o, its, q, tk, h1, h2, h3, h4⟩, h5⟩ := hr r (List.mem_of_find?_eq_some hf)
    exact ⟨r.p, r.f, o, its, q, tk, rfl, h1, h2, h3, h4, h5⟩
theorem Has.toF {Γ : Gam} {x : Str} {i : FnI} {f : Addr} (h : Has Γ x i) (hm : Γ.mg x = some (.ref f)) : HasF Γ f i := by
  obtain ⟨f', fd, ps, k, h1, h2, h3, h4, h5⟩ := h.ex
  rw [hm] at h3
  cases h3
  exact ⟨fd, ps, k, h1, h2, h4, h5⟩
end Pz

namespace Q
open PySem L2 Pz
local macro_rules
  | `(tactic| simp? only [$as,*]) => `(tactic| simp only [wUnps, wKin, wtKin, waStar, wisWS, wFrz, wRais, wDc, IS.sms, IS.sm, IE.sm, IE.sms, IE.smo, pl, List.map_cons, List.map_nil, andW, orW, andT, orT, wisW, srcW, prs, ifsW, wNext, wSeq, wBrk, wCnt, wDrop, wRet, wIfS, wSet, wUnp, wPar, parGo, wFor, wc, w1, w2, waNil, waCons, wN, wTup, wLst, wtv, wtNot, wtAnd, wtOr, Pz.wNot, wAnd, wOr, wIf, wChain, wtCmp, wtChain, wSl, woNo, woE, wIsi, wMth, wApp, wExt, wPop, wDct0, wDct, dspGo, wLc, wiRng1, wiRng2, wiEn, wiZs, wSset, seqOf, wtYes, S.mv, fBin, fCmp, retC, ent, Fn.g, zfz_d, zfz_l, zfz_m, zfz_p, zdatO, zdat_d, zdat_l, zdat_m, zlook_d, zlook_p, zofz_d, zofz_p, zfzO, zfz, zconsO, zlooks_nil, zlooks_cons, zfzs_nil, zfzs_cons, zwvO_d, zwvO_l, zwvO_m, zwv, zset, zput_d, zput_l, zput_m, zputO, zput_p, zpush_d, zpush_l, zpush_m, zpushO, zpush_p, zmvs_nil, zmvs_cons, zout_d, zout_l, zout_m, zoutO_d, zoutO_l, zoutO_m, zout_p, ztru_non, ztru_bl, ztru_int, ztru_str, ztru_lst, ztru_tup, ztru_dic, zin_s, zin_l, zin_t, zin_d, zix_d, zdict, zadd_i, zadd_b, zsub_b, zstr_i, zstr_b, zint_b, zadd_s, zadd_l, zadd_t, zsub, zmul_i, zmul_l, zmul_s, zmul_t, zdiv, zmod, zpow, zneg, zlt_i, zle_i, zgt_i, zge_i, zlt_s, zle_s, zgt_s, zge_s, zeq_i, zne_i, zeq_s, zne_s, zis, zis_b, zix_l, zix_t, zix_s, zsl_l, zsl_t, zsl_s, zlen_s, zlen_l, zlen_t, zlen_d, ztup_l, ztup_t, zlist_l, zlist_t, zmax, zmin, zmaxS, zminS, zrev_l, zrev_t, zall, zany, zsum, zsorted, zrepr, zset_nm, zset_tt, zset_tl, zsets_nil, zsets_cons, zseqK_l, zseqK_t, zseqK_s, zseq, zcall_pu, zdkK, zcall_dk, zuns_nil, zuns_cons, zbkO_d, zbkO_l, zbkO_m, zbkO_n, zbkO_0, zback_nil, zback_cons, zat0, zat1, zat2, zat3, zm_split, zm_words, zm_join_l, zm_join_t, zm_upper, zm_lower, D.tyS, Mth.ty, List.getElem?_cons_zero, List.getElem?_cons_succ, List.set_cons_zero, List.set_cons_succ, List.dropLast_cons_cons, List.dropLast_singleton, List.getLast?_cons_cons, List.getLast?_singleton, List.cons_append, List.nil_append, List.append_nil, List.reverse_cons, List.reverse_nil, Option.getD_some, Option.getD_none, Option.some.injEq, Option.bind_some, exists_eq_left', exists_eq_left, exists_eq_right, exists_and_left, true_and, and_true, if_true, if_false, reduceCtorEq, reduceIte, Bool.false_eq_true, Bool.false_xor, Bool.true_xor, List.replicate_succ, List.replicate_zero, List.length_cons, List.length_nil, Nat.zero_add, Nat.reduceAdd, Nat.reduceSub, O.d.injEq, D.int.injEq, Res.d.injEq, B.l.injEq, B.d.injEq, D.bl.injEq, D.str.injEq, D.lst.injEq, D.tup.injEq, Nat.zero_le, $as,*])
  | `(tactic| simp? only [$as,*] $l:location) => `(tactic| simp only [wUnps, wKin, wtKin, waStar, wisWS, wFrz, wRais, wDc, IS.sms, IS.sm, IE.sm, IE.sms, IE.smo, pl, List.map_cons, List.map_nil, andW, orW, andT, orT, wisW, srcW, prs, ifsW, wNext, wSeq, wBrk, wCnt, wDrop, wRet, wIfS, wSet, wUnp, wPar, parGo, wFor, wc, w1, w2, waNil, waCons, wN, wTup, wLst, wtv, wtNot, wtAnd, wtOr, Pz.wNot, wAnd, wOr, wIf, wChain, wtCmp, wtChain, wSl, woNo, woE, wIsi, wMth, wApp, wExt, wPop, wDct0, wDct, dspGo, wLc, wiRng1, wiRng2, wiEn, wiZs, wSset, seqOf, wtYes, S.mv, fBin, fCmp, retC, ent, Fn.g, zfz_d, zfz_l, zfz_m, zfz_p, zdatO, zdat_d, zdat_l, zdat_m, zlook_d, zlook_p, zofz_d, zofz_p, zfzO, zfz, zconsO, zlooks_nil, zlooks_cons, zfzs_nil, zfzs_cons, zwvO_d, zwvO_l, zwvO_m, zwv, zset, zput_d, zput_l, zput_m, zputO, zput_p, zpush_d, zpush_l, zpush_m, zpushO, zpush_p, zmvs_nil, zmvs_cons, zout_d, zout_l, zout_m, zoutO_d, zoutO_l, zoutO_m, zout_p, ztru_non, ztru_bl, ztru_int, ztru_str, ztru_lst, ztru_tup, ztru_dic, zin_s, zin_l, zin_t, zin_d, zix_d, zdict, zadd_i, zadd_b, zsub_b, zstr_i, zstr_b, zint_b, zadd_s, zadd_l, zadd_t, zsub, zmul_i, zmul_l, zmul_s, zmul_t, zdiv, zmod, zpow, zneg, zlt_i, zle_i, zgt_i, zge_i, zlt_s, zle_s, zgt_s, zge_s, zeq_i, zne_i, zeq_s, zne_s, zis, zis_b, zix_l, zix_t, zix_s, zsl_l, zsl_t, zsl_s, zlen_s, zlen_l, zlen_t, zlen_d, ztup_l, ztup_t, zlist_l, zlist_t, zmax, zmin, zmaxS, zminS, zrev_l, zrev_t, zall, zany, zsum, zsorted, zrepr, zset_nm, zset_tt, zset_tl, zsets_nil, zsets_cons, zseqK_l, zseqK_t, zseqK_s, zseq, zcall_pu, zdkK, zcall_dk, zuns_nil, zuns_cons, zbkO_d, zbkO_l, zbkO_m, zbkO_n, zbkO_0, zback_nil, zback_cons, zat0, zat1, zat2, zat3, zm_split, zm_words, zm_join_l, zm_join_t, zm_upper, zm_lower, D.tyS, Mth.ty, List.getElem?_cons_zero, List.getElem?_cons_succ, List.set_cons_zero, List.set_cons_succ, List.dropLast_cons_cons, List.dropLast_singleton, List.getLast?_cons_cons, List.getLast?_singleton, List.cons_append, List.nil_append, List.append_nil, List.reverse_cons, List.reverse_nil, Option.getD_some, Option.getD_none, Option.some.injEq, Option.bind_some, exists_eq_left', exists_eq_left, exists_eq_right, exists_and_left, true_and, and_true, if_true, if_false, reduceCtorEq, reduceIte, Bool.false_eq_true, Bool.false_xor, Bool.true_xor, List.replicate_succ, List.replicate_zero, List.length_cons, List.length_nil, Nat.zero_add, Nat.reduceAdd, Nat.reduceSub, O.d.injEq, D.int.injEq, Res.d.injEq, B.l.injEq, B.d.injEq, D.bl.injEq, D.str.injEq, D.lst.injEq, D.tup.injEq, Nat.zero_le, $as,*] $l:location)
local macro_rules
  | `(tactic| infer_instance) => `(tactic| repeat (first | (with_reducible first | exact fn_eq | exact gv_eq | refine fn_ne (by decide +kernel) ?_ | refine fn_g ?_ | refine fn_k ?_ | refine kw_ne (by decide +kernel) ?_ | refine kw_a ?_ | refine kw_g ?_ | refine gv_ne (by decide +kernel) ?_ | refine gv_a ?_ | refine gv_k ?_ | refine fn_t ?_ | refine kw_t ?_ | refine gv_t ?_ | exact kd_eq | refine kd_a ?_ | refine kd_k ?_) | exact kw_eq))
set_option maxRecDepth 100000
set_option maxHeartbeats 4000000
theorem all_mk {l : PySem.W.OpenLaw} {w : World} {K : PySem.W.Frag} {h : Heap} {mg : Str → Option Value} {fa : Addr} (X : K.In h) (G : h.Ns mainGlobals mg) (hfa : mg "law" = some (.ref fa))
    {f0 : Addr} {od0 an0 : Option Addr} {sl0 : Array (Option Value)} {oc0 kV0 dc0 pm0 cd0 ct0 : Value}
    (a0 : PySem.W.nsIn K mainGlobals "is_count" = some (some (.ref f0))) (l0 : K.lookup f0 = some ⟨oc0, od0, .func (PySem.W.fnOf "is_count" "is_count" (defArgs s_is_count) (defBody s_is_count) (defScope s_is_count) .none kV0 dc0 pm0 an0 cd0 ct0), sl0⟩) (c0 : PySem.W.codeIn K cd0 "is_count" = true) (k0 : PySem.W.keepIn K (.ref f0) = true)
    {f1 : Addr} {od1 an1 : Option Addr} {sl1 : Array (Option Value)} {oc1 kV1 dc1 pm1 cd1 ct1 : Value}
    (a1 : PySem.W.nsIn K mainGlobals "is_most" = some (some (.ref f1))) (l1 : K.lookup f1 = some ⟨oc1, od1, .func (PySem.W.fnOf "is_most" "is_most" (defArgs s_is_most) (defBody s_is_most) (defScope s_is_most) .none kV1 dc1 pm1 an1 cd1 ct1), sl1⟩) (c1 : PySem.W.codeIn K cd1 "is_most" = true) (k1 : PySem.W.keepIn K (.ref f1) = true)
    {f2 : Addr} {od2 an2 : Option Addr} {sl2 : Array (Option Value)} {oc2 kV2 dc2 pm2 cd2 ct2 : Value}
    (a2 : PySem.W.nsIn K mainGlobals "is_less" = some (some (.ref f2))) (l2 : K.lookup f2 = some ⟨oc2, od2, .func (PySem.W.fnOf "is_less" "is_less" (defArgs s_is_less) (defBody s_is_less) (defScope s_is_less) .none kV2 dc2 pm2 an2 cd2 ct2), sl2⟩) (c2 : PySem.W.codeIn K cd2 "is_less" = true) (k2 : PySem.W.keepIn K (.ref f2) = true)
    {f3 : Addr} {od3 an3 : Option Addr} {sl3 : Array (Option Value)} {oc3 kV3 dc3 pm3 cd3 ct3 : Value}
    (a3 : PySem.W.nsIn K mainGlobals "is_name" = some (some (.ref f3))) (l3 : K.lookup f3 = some ⟨oc3, od3, .func (PySem.W.fnOf "is_name" "is_name" (defArgs s_is_name) (defBody s_is_name) (defScope s_is_name) .none kV3 dc3 pm3 an3 cd3 ct3), sl3⟩) (c3 : PySem.W.codeIn K cd3 "is_name" = true) (k3 : PySem.W.keepIn K (.ref f3) = true)
    {f4 : Addr} {od4 an4 : Option Addr} {sl4 : Array (Option Value)} {oc4 kV4 dc4 pm4 cd4 ct4 : Value}
    (a4 : PySem.W.nsIn K mainGlobals "are_ascending" = some (some (.ref f4))) (l4 : K.lookup f4 = some ⟨oc4, od4, .func (PySem.W.fnOf "are_ascending" "are_ascending" (defArgs s_are_ascending) (defBody s_are_ascending) (defScope s_are_ascending) .none kV4 dc4 pm4 an4 cd4 ct4), sl4⟩) (c4 : PySem.W.codeIn K cd4 "are_ascending" = true) (k4 : PySem.W.keepIn K (.ref f4) = true)
    {f5 : Addr} {od5 an5 : Option Addr} {sl5 : Array (Option Value)} {oc5 kV5 dc5 pm5 cd5 ct5 : Value}
    (a5 : PySem.W.nsIn K mainGlobals "is_room" = some (some (.ref f5))) (l5 : K.lookup f5 = some ⟨oc5, od5, .func (PySem.W.fnOf "is_room" "is_room" (defArgs s_is_room) (defBody s_is_room) (defScope s_is_room) .none kV5 dc5 pm5 an5 cd5 ct5), sl5⟩) (c5 : PySem.W.codeIn K cd5 "is_room" = true) (k5 : PySem.W.keepIn K (.ref f5) = true)
    {f6 : Addr} {od6 an6 : Option Addr} {sl6 : Array (Option Value)} {oc6 kV6 dc6 pm6 cd6 ct6 : Value}
    (a6 : PySem.W.nsIn K mainGlobals "are_sides" = some (some (.ref f6))) (l6 : K.lookup f6 = some ⟨oc6, od6, .func (PySem.W.fnOf "are_sides" "are_sides" (defArgs s_are_sides) (defBody s_are_sides) (defScope s_are_sides) .none kV6 dc6 pm6 an6 cd6 ct6), sl6⟩) (c6 : PySem.W.codeIn K cd6 "are_sides" = true) (k6 : PySem.W.keepIn K (.ref f6) = true)
    {f7 : Addr} {od7 an7 : Option Addr} {sl7 : Array (Option Value)} {oc7 kV7 dc7 pm7 cd7 ct7 : Value}
    (a7 : PySem.W.nsIn K mainGlobals "door_sides" = some (some (.ref f7))) (l7 : K.lookup f7 = some ⟨oc7, od7, .func (PySem.W.fnOf "door_sides" "door_sides" (defArgs s_door_sides) (defBody s_door_sides) (defScope s_door_sides) .none kV7 dc7 pm7 an7 cd7 ct7), sl7⟩) (c7 : PySem.W.codeIn K cd7 "door_sides" = true) (k7 : PySem.W.keepIn K (.ref f7) = true)
    {f8 : Addr} {od8 an8 : Option Addr} {sl8 : Array (Option Value)} {oc8 kV8 dc8 pm8 cd8 ct8 : Value}
    (a8 : PySem.W.nsIn K mainGlobals "is_own_door" = some (some (.ref f8))) (l8 : K.lookup f8 = some ⟨oc8, od8, .func (PySem.W.fnOf "is_own_door" "is_own_door" (defArgs s_is_own_door) (defBody s_is_own_door) (defScope s_is_own_door) .none kV8 dc8 pm8 an8 cd8 ct8), sl8⟩) (c8 : PySem.W.codeIn K cd8 "is_own_door" = true) (k8 : PySem.W.keepIn K (.ref f8) = true)
    {f9 : Addr} {od9 an9 : Option Addr} {sl9 : Array (Option Value)} {oc9 kV9 dc9 pm9 cd9 ct9 : Value}
    (a9 : PySem.W.nsIn K mainGlobals "doors_of" = some (some (.ref f9))) (l9 : K.lookup f9 = some ⟨oc9, od9, .func (PySem.W.fnOf "doors_of" "doors_of" (defArgs s_doors_of) (defBody s_doors_of) (defScope s_doors_of) .none kV9 dc9 pm9 an9 cd9 ct9), sl9⟩) (c9 : PySem.W.codeIn K cd9 "doors_of" = true) (k9 : PySem.W.keepIn K (.ref f9) = true)
    {f10 : Addr} {od10 an10 : Option Addr} {sl10 : Array (Option Value)} {oc10 kV10 dc10 pm10 cd10 ct10 : Value}
    (a10 : PySem.W.nsIn K mainGlobals "are_bounds" = some (some (.ref f10))) (l10 : K.lookup f10 = some ⟨oc10, od10, .func (PySem.W.fnOf "are_bounds" "are_bounds" (defArgs s_are_bounds) (defBody s_are_bounds) (defScope s_are_bounds) .none kV10 dc10 pm10 an10 cd10 ct10), sl10⟩) (c10 : PySem.W.codeIn K cd10 "are_bounds" = true) (k10 : PySem.W.keepIn K (.ref f10) = true)
    {f11 : Addr} {od11 an11 : Option Addr} {sl11 : Array (Option Value)} {oc11 kV11 dc11 pm11 cd11 ct11 : Value}
    (a11 : PySem.W.nsIn K mainGlobals "is_passage" = some (some (.ref f11))) (l11 : K.lookup f11 = some ⟨oc11, od11, .func (PySem.W.fnOf "is_passage" "is_passage" (defArgs s_is_passage) (defBody s_is_passage) (defScope s_is_passage) .none kV11 dc11 pm11 an11 cd11 ct11), sl11⟩) (c11 : PySem.W.codeIn K cd11 "is_passage" = true) (k11 : PySem.W.keepIn K (.ref f11) = true)
    {f12 : Addr} {od12 an12 : Option Addr} {sl12 : Array (Option Value)} {oc12 kV12 dc12 pm12 cd12 ct12 : Value}
    (a12 : PySem.W.nsIn K mainGlobals "is_room_count" = some (some (.ref f12))) (l12 : K.lookup f12 = some ⟨oc12, od12, .func (PySem.W.fnOf "is_room_count" "is_room_count" (defArgs s_is_room_count) (defBody s_is_room_count) (defScope s_is_room_count) .none kV12 dc12 pm12 an12 cd12 ct12), sl12⟩) (c12 : PySem.W.codeIn K cd12 "is_room_count" = true) (k12 : PySem.W.keepIn K (.ref f12) = true)
    {f13 : Addr} {od13 an13 : Option Addr} {sl13 : Array (Option Value)} {oc13 kV13 dc13 pm13 cd13 ct13 : Value}
    (a13 : PySem.W.nsIn K mainGlobals "is_whole_count" = some (some (.ref f13))) (l13 : K.lookup f13 = some ⟨oc13, od13, .func (PySem.W.fnOf "is_whole_count" "is_whole_count" (defArgs s_is_whole_count) (defBody s_is_whole_count) (defScope s_is_whole_count) .none kV13 dc13 pm13 an13 cd13 ct13), sl13⟩) (c13 : PySem.W.codeIn K cd13 "is_whole_count" = true) (k13 : PySem.W.keepIn K (.ref f13) = true)
    {f14 : Addr} {od14 an14 : Option Addr} {sl14 : Array (Option Value)} {oc14 kV14 dc14 pm14 cd14 ct14 : Value}
    (a14 : PySem.W.nsIn K mainGlobals "is_joining" = some (some (.ref f14))) (l14 : K.lookup f14 = some ⟨oc14, od14, .func (PySem.W.fnOf "is_joining" "is_joining" (defArgs s_is_joining) (defBody s_is_joining) (defScope s_is_joining) .none kV14 dc14 pm14 an14 cd14 ct14), sl14⟩) (c14 : PySem.W.codeIn K cd14 "is_joining" = true) (k14 : PySem.W.keepIn K (.ref f14) = true)
    {f15 : Addr} {od15 an15 : Option Addr} {sl15 : Array (Option Value)} {oc15 kV15 dc15 pm15 cd15 ct15 : Value}
    (a15 : PySem.W.nsIn K mainGlobals "is_parting" = some (some (.ref f15))) (l15 : K.lookup f15 = some ⟨oc15, od15, .func (PySem.W.fnOf "is_parting" "is_parting" (defArgs s_is_parting) (defBody s_is_parting) (defScope s_is_parting) .none kV15 dc15 pm15 an15 cd15 ct15), sl15⟩) (c15 : PySem.W.codeIn K cd15 "is_parting" = true) (k15 : PySem.W.keepIn K (.ref f15) = true)
    {f16 : Addr} {od16 an16 : Option Addr} {sl16 : Array (Option Value)} {oc16 kV16 dc16 pm16 cd16 ct16 : Value}
    (a16 : PySem.W.nsIn K mainGlobals "is_new_door" = some (some (.ref f16))) (l16 : K.lookup f16 = some ⟨oc16, od16, .func (PySem.W.fnOf "is_new_door" "is_new_door" (defArgs s_is_new_door) (defBody s_is_new_door) (defScope s_is_new_door) .none kV16 dc16 pm16 an16 cd16 ct16), sl16⟩) (c16 : PySem.W.codeIn K cd16 "is_new_door" = true) (k16 : PySem.W.keepIn K (.ref f16) = true)
    {f17 : Addr} {od17 an17 : Option Addr} {sl17 : Array (Option Value)} {oc17 kV17 dc17 pm17 cd17 ct17 : Value}
    (a17 : PySem.W.nsIn K mainGlobals "is_line" = some (some (.ref f17))) (l17 : K.lookup f17 = some ⟨oc17, od17, .func (PySem.W.fnOf "is_line" "is_line" (defArgs s_is_line) (defBody s_is_line) (defScope s_is_line) .none kV17 dc17 pm17 an17 cd17 ct17), sl17⟩) (c17 : PySem.W.codeIn K cd17 "is_line" = true) (k17 : PySem.W.keepIn K (.ref f17) = true)
    {f18 : Addr} {od18 an18 : Option Addr} {sl18 : Array (Option Value)} {oc18 kV18 dc18 pm18 cd18 ct18 : Value}
    (a18 : PySem.W.nsIn K mainGlobals "_law_deck" = some (some (.ref f18))) (l18 : K.lookup f18 = some ⟨oc18, od18, .func (PySem.W.fnOf "_law_deck" "_law_deck" (defArgs s_law_deck) (defBody s_law_deck) (defScope s_law_deck) .none kV18 dc18 pm18 an18 cd18 ct18), sl18⟩) (c18 : PySem.W.codeIn K cd18 "_law_deck" = true) (k18 : PySem.W.keepIn K (.ref f18) = true)
    {f19 : Addr} {od19 an19 : Option Addr} {sl19 : Array (Option Value)} {oc19 kV19 dc19 pm19 cd19 ct19 : Value}
    (a19 : PySem.W.nsIn K mainGlobals "_law_draw" = some (some (.ref f19))) (l19 : K.lookup f19 = some ⟨oc19, od19, .func (PySem.W.fnOf "_law_draw" "_law_draw" (defArgs s_law_draw) (defBody s_law_draw) (defScope s_law_draw) .none kV19 dc19 pm19 an19 cd19 ct19), sl19⟩) (c19 : PySem.W.codeIn K cd19 "_law_draw" = true) (k19 : PySem.W.keepIn K (.ref f19) = true)
    {f20 : Addr} {od20 an20 : Option Addr} {sl20 : Array (Option Value)} {oc20 kV20 dc20 pm20 cd20 ct20 : Value}
    (a20 : PySem.W.nsIn K mainGlobals "_law_pick" = some (some (.ref f20))) (l20 : K.lookup f20 = some ⟨oc20, od20, .func (PySem.W.fnOf "_law_pick" "_law_pick" (defArgs s_law_pick) (defBody s_law_pick) (defScope s_law_pick) .none kV20 dc20 pm20 an20 cd20 ct20), sl20⟩) (c20 : PySem.W.codeIn K cd20 "_law_pick" = true) (k20 : PySem.W.keepIn K (.ref f20) = true)
    {f21 : Addr} {od21 an21 : Option Addr} {sl21 : Array (Option Value)} {oc21 kV21 dc21 pm21 cd21 ct21 : Value}
    (a21 : PySem.W.nsIn K mainGlobals "_law_names" = some (some (.ref f21))) (l21 : K.lookup f21 = some ⟨oc21, od21, .func (PySem.W.fnOf "_law_names" "_law_names" (defArgs s_law_names) (defBody s_law_names) (defScope s_law_names) .none kV21 dc21 pm21 an21 cd21 ct21), sl21⟩) (c21 : PySem.W.codeIn K cd21 "_law_names" = true) (k21 : PySem.W.keepIn K (.ref f21) = true)
    {f22 : Addr} {od22 an22 : Option Addr} {sl22 : Array (Option Value)} {oc22 kV22 dc22 pm22 cd22 ct22 : Value}
    (a22 : PySem.W.nsIn K mainGlobals "_law_house" = some (some (.ref f22))) (l22 : K.lookup f22 = some ⟨oc22, od22, .func (PySem.W.fnOf "_law_house" "_law_house" (defArgs s_law_house) (defBody s_law_house) (defScope s_law_house) .none kV22 dc22 pm22 an22 cd22 ct22), sl22⟩) (c22 : PySem.W.codeIn K cd22 "_law_house" = true) (k22 : PySem.W.keepIn K (.ref f22) = true)
    {f23 : Addr} {od23 an23 : Option Addr} {sl23 : Array (Option Value)} {oc23 kV23 dc23 pm23 cd23 ct23 : Value}
    (a23 : PySem.W.nsIn K mainGlobals "_law_bent" = some (some (.ref f23))) (l23 : K.lookup f23 = some ⟨oc23, od23, .func (PySem.W.fnOf "_law_bent" "_law_bent" (defArgs s_law_bent) (defBody s_law_bent) (defScope s_law_bent) .none kV23 dc23 pm23 an23 cd23 ct23), sl23⟩) (c23 : PySem.W.codeIn K cd23 "_law_bent" = true) (k23 : PySem.W.keepIn K (.ref f23) = true)
    {f24 : Addr} {od24 an24 : Option Addr} {sl24 : Array (Option Value)} {oc24 kV24 dc24 pm24 cd24 ct24 : Value}
    (a24 : PySem.W.nsIn K mainGlobals "_law_is_name" = some (some (.ref f24))) (l24 : K.lookup f24 = some ⟨oc24, od24, .func (PySem.W.fnOf "_law_is_name" "_law_is_name" (defArgs s_law_is_name) (defBody s_law_is_name) (defScope s_law_is_name) .none kV24 dc24 pm24 an24 cd24 ct24), sl24⟩) (c24 : PySem.W.codeIn K cd24 "_law_is_name" = true) (k24 : PySem.W.keepIn K (.ref f24) = true)
    {f25 : Addr} {od25 an25 : Option Addr} {sl25 : Array (Option Value)} {oc25 kV25 dc25 pm25 cd25 ct25 : Value}
    (a25 : PySem.W.nsIn K mainGlobals "_law_sides" = some (some (.ref f25))) (l25 : K.lookup f25 = some ⟨oc25, od25, .func (PySem.W.fnOf "_law_sides" "_law_sides" (defArgs s_law_sides) (defBody s_law_sides) (defScope s_law_sides) .none kV25 dc25 pm25 an25 cd25 ct25), sl25⟩) (c25 : PySem.W.codeIn K cd25 "_law_sides" = true) (k25 : PySem.W.keepIn K (.ref f25) = true)
    {f26 : Addr} {od26 an26 : Option Addr} {sl26 : Array (Option Value)} {oc26 kV26 dc26 pm26 cd26 ct26 : Value}
    (a26 : PySem.W.nsIn K mainGlobals "_law_is_one_of" = some (some (.ref f26))) (l26 : K.lookup f26 = some ⟨oc26, od26, .func (PySem.W.fnOf "_law_is_one_of" "_law_is_one_of" (defArgs s_law_is_one_of) (defBody s_law_is_one_of) (defScope s_law_is_one_of) .none kV26 dc26 pm26 an26 cd26 ct26), sl26⟩) (c26 : PySem.W.codeIn K cd26 "_law_is_one_of" = true) (k26 : PySem.W.keepIn K (.ref f26) = true)
    {f27 : Addr} {od27 an27 : Option Addr} {sl27 : Array (Option Value)} {oc27 kV27 dc27 pm27 cd27 ct27 : Value}
    (a27 : PySem.W.nsIn K mainGlobals "_law_are_bounds" = some (some (.ref f27))) (l27 : K.lookup f27 = some ⟨oc27, od27, .func (PySem.W.fnOf "_law_are_bounds" "_law_are_bounds" (defArgs s_law_are_bounds) (defBody s_law_are_bounds) (defScope s_law_are_bounds) .none kV27 dc27 pm27 an27 cd27 ct27), sl27⟩) (c27 : PySem.W.codeIn K cd27 "_law_are_bounds" = true) (k27 : PySem.W.keepIn K (.ref f27) = true)
    {f28 : Addr} {od28 an28 : Option Addr} {sl28 : Array (Option Value)} {oc28 kV28 dc28 pm28 cd28 ct28 : Value}
    (a28 : PySem.W.nsIn K mainGlobals "_law_is_fence_line" = some (some (.ref f28))) (l28 : K.lookup f28 = some ⟨oc28, od28, .func (PySem.W.fnOf "_law_is_fence_line" "_law_is_fence_line" (defArgs s_law_is_fence_line) (defBody s_law_is_fence_line) (defScope s_law_is_fence_line) .none kV28 dc28 pm28 an28 cd28 ct28), sl28⟩) (c28 : PySem.W.codeIn K cd28 "_law_is_fence_line" = true) (k28 : PySem.W.keepIn K (.ref f28) = true)
    {f29 : Addr} {od29 an29 : Option Addr} {sl29 : Array (Option Value)} {oc29 kV29 dc29 pm29 cd29 ct29 : Value}
    (a29 : PySem.W.nsIn K mainGlobals "_law_is_line" = some (some (.ref f29))) (l29 : K.lookup f29 = some ⟨oc29, od29, .func (PySem.W.fnOf "_law_is_line" "_law_is_line" (defArgs s_law_is_line) (defBody s_law_is_line) (defScope s_law_is_line) .none kV29 dc29 pm29 an29 cd29 ct29), sl29⟩) (c29 : PySem.W.codeIn K cd29 "_law_is_line" = true) (k29 : PySem.W.keepIn K (.ref f29) = true)
    {f30 : Addr} {od30 an30 : Option Addr} {sl30 : Array (Option Value)} {oc30 kV30 dc30 pm30 cd30 ct30 : Value}
    (a30 : PySem.W.nsIn K mainGlobals "_law_try" = some (some (.ref f30))) (l30 : K.lookup f30 = some ⟨oc30, od30, .func (PySem.W.fnOf "_law_try" "_law_try" (defArgs s_law_try) (defBody s_law_try) (defScope s_law_try) .none kV30 dc30 pm30 an30 cd30 ct30), sl30⟩) (c30 : PySem.W.codeIn K cd30 "_law_try" = true) (k30 : PySem.W.keepIn K (.ref f30) = true)
    {f31 : Addr} {od31 an31 : Option Addr} {sl31 : Array (Option Value)} {oc31 kV31 dc31 pm31 cd31 ct31 : Value}
    (a31 : PySem.W.nsIn K mainGlobals "_law_by_hand" = some (some (.ref f31))) (l31 : K.lookup f31 = some ⟨oc31, od31, .func (PySem.W.fnOf "_law_by_hand" "_law_by_hand" (defArgs s_law_by_hand) (defBody s_law_by_hand) (defScope s_law_by_hand) .none kV31 dc31 pm31 an31 cd31 ct31), sl31⟩) (c31 : PySem.W.codeIn K cd31 "_law_by_hand" = true) (k31 : PySem.W.keepIn K (.ref f31) = true)
    {f32 : Addr} {od32 an32 : Option Addr} {sl32 : Array (Option Value)} {oc32 kV32 dc32 pm32 cd32 ct32 : Value}
    (a32 : PySem.W.nsIn K mainGlobals "_law_so" = some (some (.ref f32))) (l32 : K.lookup f32 = some ⟨oc32, od32, .func (PySem.W.fnOf "_law_so" "_law_so" (defArgs s_law_so) (defBody s_law_so) (defScope s_law_so) .none kV32 dc32 pm32 an32 cd32 ct32), sl32⟩) (c32 : PySem.W.codeIn K cd32 "_law_so" = true) (k32 : PySem.W.keepIn K (.ref f32) = true)
    {f33 : Addr} {od33 an33 : Option Addr} {sl33 : Array (Option Value)} {oc33 kV33 dc33 pm33 cd33 ct33 : Value}
    (a33 : PySem.W.nsIn K mainGlobals "law" = some (some (.ref f33))) (l33 : K.lookup f33 = some ⟨oc33, od33, .func (PySem.W.fnOf "law" "law" (defArgs s_law) (defBody s_law) (defScope s_law) .none kV33 dc33 pm33 an33 cd33 ct33), sl33⟩) (c33 : PySem.W.codeIn K cd33 "law" = true) (k33 : PySem.W.keepIn K (.ref f33) = true)
    (z0 : PySem.W.nsIn K mainGlobals "len" = some none)
    (z1 : PySem.W.nsIn K mainGlobals "repr" = some none)
    (z2 : PySem.W.nsIn K mainGlobals "isinstance" = some none)
    (z3 : PySem.W.nsIn K mainGlobals "tuple" = some none)
    (z4 : PySem.W.nsIn K mainGlobals "list" = some none)
    (z5 : PySem.W.nsIn K mainGlobals "sorted" = some none)
    (z6 : PySem.W.nsIn K mainGlobals "sum" = some none)
    (z7 : PySem.W.nsIn K mainGlobals "max" = some none)
    (z8 : PySem.W.nsIn K mainGlobals "min" = some none)
    (z9 : PySem.W.nsIn K mainGlobals "all" = some none)
    (z10 : PySem.W.nsIn K mainGlobals "any" = some none)
    (z11 : PySem.W.nsIn K mainGlobals "int" = some none)
    (z12 : PySem.W.nsIn K mainGlobals "bool" = some none)
    (z13 : PySem.W.nsIn K mainGlobals "str" = some none)
    (z14 : PySem.W.nsIn K mainGlobals "dict" = some none)
    (z15 : PySem.W.nsIn K mainGlobals "range" = some none)
    (z16 : PySem.W.nsIn K mainGlobals "zip" = some none)
    (z17 : PySem.W.nsIn K mainGlobals "enumerate" = some none)
    (z18 : PySem.W.nsIn K mainGlobals "set" = some none)
    (z19 : PySem.W.nsIn K mainGlobals "abs" = some none)
    {tk0 : Tok} (g0 : PySem.W.nsIn K mainGlobals "LETTERS" = some (some (.str "abcdefghijklmnopqrstuvwxyz" tk0)))
    {tk1 : Tok} (g1 : PySem.W.nsIn K mainGlobals "LONGEST_NAME" = some (some (.int 8 tk1)))
    {ad0 : Addr} {nd0 : Nat} {th0_0 th0_1 th0_2 th0_3 th0_4 th0_5 th0_6 th0_7 th0_8 : Int} {tt0_0 tt0_1 tt0_2 tt0_3 tt0_4 tt0_5 tt0_6 tt0_7 tt0_8 : Tok} {tp0_0 tp0_1 tp0_2 tp0_3 tp0_4 tp0_5 tp0_6 tp0_7 tp0_8 : Addr}
    (dg0 : PySem.W.nsIn K mainGlobals "LINE_CHECKS" = some (some (.ref ad0))) (dl0 : K.lookup ad0 = some ⟨.type "dict", none, .dict #[⟨th0_0, .str "beam" tt0_0, .ref tp0_0⟩, ⟨th0_1, .str "went" tt0_1, .ref tp0_1⟩, ⟨th0_2, .str "open" tt0_2, .ref tp0_2⟩, ⟨th0_3, .str "room" tt0_3, .ref tp0_3⟩, ⟨th0_4, .str "all" tt0_4, .ref tp0_4⟩, ⟨th0_5, .str "joined" tt0_5, .ref tp0_5⟩, ⟨th0_6, .str "parted" tt0_6, .ref tp0_6⟩, ⟨th0_7, .str "door" tt0_7, .ref tp0_7⟩, ⟨th0_8, .str "shut" tt0_8, .ref tp0_8⟩] nd0, #[]⟩) (low0 : (ad0 == sysModules) = false)
    (hh0_0 : th0_0 = PyData.keyHash w.params "beam") {to0_0 : Option Addr} {tq0_0 : Nat} {tk0_0 : Tok} {ts0_0 : Array (Option Value)} (tl0_0 : K.lookup tp0_0 = some ⟨.type "tuple", to0_0, .seq #[.int 1 tk0_0, .ref f8] tq0_0, ts0_0⟩)
    (hh0_1 : th0_1 = PyData.keyHash w.params "went") {to0_1 : Option Addr} {tq0_1 : Nat} {tk0_1 : Tok} {ts0_1 : Array (Option Value)} (tl0_1 : K.lookup tp0_1 = some ⟨.type "tuple", to0_1, .seq #[.int 2 tk0_1, .ref f11] tq0_1, ts0_1⟩)
    (hh0_2 : th0_2 = PyData.keyHash w.params "open") {to0_2 : Option Addr} {tq0_2 : Nat} {tk0_2 : Tok} {ts0_2 : Array (Option Value)} (tl0_2 : K.lookup tp0_2 = some ⟨.type "tuple", to0_2, .seq #[.int 1 tk0_2, .ref f8] tq0_2, ts0_2⟩)
    (hh0_3 : th0_3 = PyData.keyHash w.params "room") {to0_3 : Option Addr} {tq0_3 : Nat} {tk0_3 : Tok} {ts0_3 : Array (Option Value)} (tl0_3 : K.lookup tp0_3 = some ⟨.type "tuple", to0_3, .seq #[.int 3 tk0_3, .ref f12] tq0_3, ts0_3⟩)
    (hh0_4 : th0_4 = PyData.keyHash w.params "all") {to0_4 : Option Addr} {tq0_4 : Nat} {tk0_4 : Tok} {ts0_4 : Array (Option Value)} (tl0_4 : K.lookup tp0_4 = some ⟨.type "tuple", to0_4, .seq #[.int 2 tk0_4, .ref f13] tq0_4, ts0_4⟩)
    (hh0_5 : th0_5 = PyData.keyHash w.params "joined") {to0_5 : Option Addr} {tq0_5 : Nat} {tk0_5 : Tok} {ts0_5 : Array (Option Value)} (tl0_5 : K.lookup tp0_5 = some ⟨.type "tuple", to0_5, .seq #[.int 3 tk0_5, .ref f14] tq0_5, ts0_5⟩)
    (hh0_6 : th0_6 = PyData.keyHash w.params "parted") {to0_6 : Option Addr} {tq0_6 : Nat} {tk0_6 : Tok} {ts0_6 : Array (Option Value)} (tl0_6 : K.lookup tp0_6 = some ⟨.type "tuple", to0_6, .seq #[.int 4 tk0_6, .ref f15] tq0_6, ts0_6⟩)
    (hh0_7 : th0_7 = PyData.keyHash w.params "door") {to0_7 : Option Addr} {tq0_7 : Nat} {tk0_7 : Tok} {ts0_7 : Array (Option Value)} (tl0_7 : K.lookup tp0_7 = some ⟨.type "tuple", to0_7, .seq #[.int 3 tk0_7, .ref f16] tq0_7, ts0_7⟩)
    (hh0_8 : th0_8 = PyData.keyHash w.params "shut") {to0_8 : Option Addr} {tq0_8 : Nat} {tk0_8 : Tok} {ts0_8 : Array (Option Value)} (tl0_8 : K.lookup tp0_8 = some ⟨.type "tuple", to0_8, .seq #[.int 1 tk0_8, .ref f8] tq0_8, ts0_8⟩)
    : ∃ fd : FuncData, (∀ (s : Shared) (u : Value), BindsTo s fd ⟨[u], []⟩ [("_law_script", u)]) ∧ ∀ base : Heap, K.In base → base.Ns mainGlobals mg → FnZ l.prog w K mg base CX0 36 fa fd ["_law_script"] (spLaw K) := by
  have hz : ∀ x ∈ blts, PySem.W.nsIn K mainGlobals x = some none := by
    intro x hx
    simp only [blts, List.mem_cons, List.not_mem_nil, or_false] at hx
    rcases hx with rfl | rfl | rfl | rfl | rfl | rfl | rfl | rfl | rfl | rfl | rfl | rfl | rfl | rfl | rfl | rfl | rfl | rfl | rfl | rfl
    · exact z0
    · exact z1
    · exact z2
    · exact z3
    · exact z4
    · exact z5
    · exact z6
    · exact z7
    · exact z8
    · exact z9
    · exact z10
    · exact z11
    · exact z12
    · exact z13
    · exact z14
    · exact z15
    · exact z16
    · exact z17
    · exact z18
    · exact z19
  have F_is_count := fun_mk (st := s_is_count) l0 c0 k0
  have D_is_count : DefAt K mg "is_count" s_is_count ["thing"] f0 _ := ⟨F_is_count, PySem.W.mg_of X G a0, F_is_count.binds fun _ _ _ _ _ _ us hl => match us, hl with | [_], _ => rfl⟩
  have F_is_most := fun_mk (st := s_is_most) l1 c1 k1
  have D_is_most : DefAt K mg "is_most" s_is_most ["thing"] f1 _ := ⟨F_is_most, PySem.W.mg_of X G a1, F_is_most.binds fun _ _ _ _ _ _ us hl => match us, hl with | [_], _ => rfl⟩
  have F_is_less := fun_mk (st := s_is_less) l2 c2 k2
  have D_is_less : DefAt K mg "is_less" s_is_less ["one", "other"] f2 _ := ⟨F_is_less, PySem.W.mg_of X G a2, F_is_less.binds fun _ _ _ _ _ _ us hl => match us, hl with | [_, _], _ => rfl⟩
  have F_is_name := fun_mk (st := s_is_name) l3 c3 k3
  have D_is_name : DefAt K mg "is_name" s_is_name ["thing"] f3 _ := ⟨F_is_name, PySem.W.mg_of X G a3, F_is_name.binds fun _ _ _ _ _ _ us hl => match us, hl with | [_], _ => rfl⟩
  have F_are_ascending := fun_mk (st := s_are_ascending) l4 c4 k4
  have D_are_ascending : DefAt K mg "are_ascending" s_are_ascending ["items"] f4 _ := ⟨F_are_ascending, PySem.W.mg_of X G a4, F_are_ascending.binds fun _ _ _ _ _ _ us hl => match us, hl with | [_], _ => rfl⟩
  have F_is_room := fun_mk (st := s_is_room) l5 c5 k5
  have D_is_room : DefAt K mg "is_room" s_is_room ["rooms", "thing"] f5 _ := ⟨F_is_room, PySem.W.mg_of X G a5, F_is_room.binds fun _ _ _ _ _ _ us hl => match us, hl with | [_, _], _ => rfl⟩
  have F_are_sides := fun_mk (st := s_are_sides) l6 c6 k6
  have D_are_sides : DefAt K mg "are_sides" s_are_sides ["rooms", "one", "other"] f6 _ := ⟨F_are_sides, PySem.W.mg_of X G a6, F_are_sides.binds fun _ _ _ _ _ _ us hl => match us, hl with | [_, _, _], _ => rfl⟩
  have F_door_sides := fun_mk (st := s_door_sides) l7 c7 k7
  have D_door_sides : DefAt K mg "door_sides" s_door_sides ["building"] f7 _ := ⟨F_door_sides, PySem.W.mg_of X G a7, F_door_sides.binds fun _ _ _ _ _ _ us hl => match us, hl with | [_], _ => rfl⟩
  have F_is_own_door := fun_mk (st := s_is_own_door) l8 c8 k8
  have D_is_own_door : DefAt K mg "is_own_door" s_is_own_door ["building", "thing"] f8 _ := ⟨F_is_own_door, PySem.W.mg_of X G a8, F_is_own_door.binds fun _ _ _ _ _ _ us hl => match us, hl with | [_, _], _ => rfl⟩
  have F_doors_of := fun_mk (st := s_doors_of) l9 c9 k9
  have D_doors_of : DefAt K mg "doors_of" s_doors_of ["building", "room"] f9 _ := ⟨F_doors_of, PySem.W.mg_of X G a9, F_doors_of.binds fun _ _ _ _ _ _ us hl => match us, hl with | [_, _], _ => rfl⟩
  have F_are_bounds := fun_mk (st := s_are_bounds) l10 c10 k10
  have D_are_bounds : DefAt K mg "are_bounds" s_are_bounds ["least", "most"] f10 _ := ⟨F_are_bounds, PySem.W.mg_of X G a10, F_are_bounds.binds fun _ _ _ _ _ _ us hl => match us, hl with | [_, _], _ => rfl⟩
  have F_is_passage := fun_mk (st := s_is_passage) l11 c11 k11
  have D_is_passage : DefAt K mg "is_passage" s_is_passage ["building", "door", "side"] f11 _ := ⟨F_is_passage, PySem.W.mg_of X G a11, F_is_passage.binds fun _ _ _ _ _ _ us hl => match us, hl with | [_, _, _], _ => rfl⟩
  have F_is_room_count := fun_mk (st := s_is_room_count) l12 c12 k12
  have D_is_room_count : DefAt K mg "is_room_count" s_is_room_count ["building", "room", "least", "most"] f12 _ := ⟨F_is_room_count, PySem.W.mg_of X G a12, F_is_room_count.binds fun _ _ _ _ _ _ us hl => match us, hl with | [_, _, _, _], _ => rfl⟩
  have F_is_whole_count := fun_mk (st := s_is_whole_count) l13 c13 k13
  have D_is_whole_count : DefAt K mg "is_whole_count" s_is_whole_count ["building", "least", "most"] f13 _ := ⟨F_is_whole_count, PySem.W.mg_of X G a13, F_is_whole_count.binds fun _ _ _ _ _ _ us hl => match us, hl with | [_, _, _], _ => rfl⟩
  have F_is_joining := fun_mk (st := s_is_joining) l14 c14 k14
  have D_is_joining : DefAt K mg "is_joining" s_is_joining ["building", "one", "other", "new"] f14 _ := ⟨F_is_joining, PySem.W.mg_of X G a14, F_is_joining.binds fun _ _ _ _ _ _ us hl => match us, hl with | [_, _, _, _], _ => rfl⟩
  have F_is_parting := fun_mk (st := s_is_parting) l15 c15 k15
  have D_is_parting : DefAt K mg "is_parting" s_is_parting ["building", "room", "one", "other", "doors"] f15 _ := ⟨F_is_parting, PySem.W.mg_of X G a15, F_is_parting.binds fun _ _ _ _ _ _ us hl => match us, hl with | [_, _, _, _, _], _ => rfl⟩
  have F_is_new_door := fun_mk (st := s_is_new_door) l16 c16 k16
  have D_is_new_door : DefAt K mg "is_new_door" s_is_new_door ["building", "name", "one", "other"] f16 _ := ⟨F_is_new_door, PySem.W.mg_of X G a16, F_is_new_door.binds fun _ _ _ _ _ _ us hl => match us, hl with | [_, _, _, _], _ => rfl⟩
  have F_is_line := fun_mk (st := s_is_line) l17 c17 k17
  have D_is_line : DefAt K mg "is_line" s_is_line ["building", "thing"] f17 _ := ⟨F_is_line, PySem.W.mg_of X G a17, F_is_line.binds fun _ _ _ _ _ _ us hl => match us, hl with | [_, _], _ => rfl⟩
  have F_law_deck := fun_mk (st := s_law_deck) l18 c18 k18
  have D_law_deck : DefAt K mg "_law_deck" s_law_deck ["_law_script"] f18 _ := ⟨F_law_deck, PySem.W.mg_of X G a18, F_law_deck.binds fun _ _ _ _ _ _ us hl => match us, hl with | [_], _ => rfl⟩
  have F_law_draw := fun_mk (st := s_law_draw) l19 c19 k19
  have D_law_draw : DefAt K mg "_law_draw" s_law_draw ["_law_deck_here", "_law_many"] f19 _ := ⟨F_law_draw, PySem.W.mg_of X G a19, F_law_draw.binds fun _ _ _ _ _ _ us hl => match us, hl with | [_, _], _ => rfl⟩
  have F_law_pick := fun_mk (st := s_law_pick) l20 c20 k20
  have D_law_pick : DefAt K mg "_law_pick" s_law_pick ["_law_deck_here", "_law_some"] f20 _ := ⟨F_law_pick, PySem.W.mg_of X G a20, F_law_pick.binds fun _ _ _ _ _ _ us hl => match us, hl with | [_, _], _ => rfl⟩
  have F_law_names := fun_mk (st := s_law_names) l21 c21 k21
  have D_law_names : DefAt K mg "_law_names" s_law_names ["_law_deck_here", "_law_many"] f21 _ := ⟨F_law_names, PySem.W.mg_of X G a21, F_law_names.binds fun _ _ _ _ _ _ us hl => match us, hl with | [_, _], _ => rfl⟩
  have F_law_house := fun_mk (st := s_law_house) l22 c22 k22
  have D_law_house : DefAt K mg "_law_house" s_law_house ["_law_deck_here", "_law_names_here", "_law_most_rooms", "_law_most_doors"] f22 _ := ⟨F_law_house, PySem.W.mg_of X G a22, F_law_house.binds fun _ _ _ _ _ _ us hl => match us, hl with | [_, _, _, _], _ => rfl⟩
  have F_law_bent := fun_mk (st := s_law_bent) l23 c23 k23
  have D_law_bent : DefAt K mg "_law_bent" s_law_bent ["_law_deck_here", "_law_it"] f23 _ := ⟨F_law_bent, PySem.W.mg_of X G a23, F_law_bent.binds fun _ _ _ _ _ _ us hl => match us, hl with | [_, _], _ => rfl⟩
  have F_law_is_name := fun_mk (st := s_law_is_name) l24 c24 k24
  have D_law_is_name : DefAt K mg "_law_is_name" s_law_is_name ["_law_it"] f24 _ := ⟨F_law_is_name, PySem.W.mg_of X G a24, F_law_is_name.binds fun _ _ _ _ _ _ us hl => match us, hl with | [_], _ => rfl⟩
  have F_law_sides := fun_mk (st := s_law_sides) l25 c25 k25
  have D_law_sides : DefAt K mg "_law_sides" s_law_sides ["_law_house_here"] f25 _ := ⟨F_law_sides, PySem.W.mg_of X G a25, F_law_sides.binds fun _ _ _ _ _ _ us hl => match us, hl with | [_], _ => rfl⟩
  have F_law_is_one_of := fun_mk (st := s_law_is_one_of) l26 c26 k26
  have D_law_is_one_of : DefAt K mg "_law_is_one_of" s_law_is_one_of ["_law_it", "_law_some"] f26 _ := ⟨F_law_is_one_of, PySem.W.mg_of X G a26, F_law_is_one_of.binds fun _ _ _ _ _ _ us hl => match us, hl with | [_, _], _ => rfl⟩
  have F_law_are_bounds := fun_mk (st := s_law_are_bounds) l27 c27 k27
  have D_law_are_bounds : DefAt K mg "_law_are_bounds" s_law_are_bounds ["_law_least", "_law_most"] f27 _ := ⟨F_law_are_bounds, PySem.W.mg_of X G a27, F_law_are_bounds.binds fun _ _ _ _ _ _ us hl => match us, hl with | [_, _], _ => rfl⟩
  have F_law_is_fence_line := fun_mk (st := s_law_is_fence_line) l28 c28 k28
  have D_law_is_fence_line : DefAt K mg "_law_is_fence_line" s_law_is_fence_line ["_law_house_here", "_law_it"] f28 _ := ⟨F_law_is_fence_line, PySem.W.mg_of X G a28, F_law_is_fence_line.binds fun _ _ _ _ _ _ us hl => match us, hl with | [_, _], _ => rfl⟩
  have F_law_is_line := fun_mk (st := s_law_is_line) l29 c29 k29
  have D_law_is_line : DefAt K mg "_law_is_line" s_law_is_line ["_law_house_here", "_law_it"] f29 _ := ⟨F_law_is_line, PySem.W.mg_of X G a29, F_law_is_line.binds fun _ _ _ _ _ _ us hl => match us, hl with | [_, _], _ => rfl⟩
  have F_law_try := fun_mk (st := s_law_try) l30 c30 k30
  have D_law_try : DefAt K mg "_law_try" s_law_try ["_law_deck_here", "_law_house_here", "_law_names_here"] f30 _ := ⟨F_law_try, PySem.W.mg_of X G a30, F_law_try.binds fun _ _ _ _ _ _ us hl => match us, hl with | [_, _, _], _ => rfl⟩
  have F_law_by_hand := fun_mk (st := s_law_by_hand) l31 c31 k31
  have D_law_by_hand : DefAt K mg "_law_by_hand" s_law_by_hand [] f31 _ := ⟨F_law_by_hand, PySem.W.mg_of X G a31, F_law_by_hand.binds fun _ _ _ _ _ _ us hl => match us, hl with | [], _ => rfl⟩
  have F_law_so := fun_mk (st := s_law_so) l32 c32 k32
  have D_law_so : DefAt K mg "_law_so" s_law_so ["_law_house_here", "_law_it"] f32 _ := ⟨F_law_so, PySem.W.mg_of X G a32, F_law_so.binds fun _ _ _ _ _ _ us hl => match us, hl with | [_, _], _ => rfl⟩
  have F_law := fun_mk (st := s_law) l33 c33 k33
  have D_law : DefAt K mg "law" s_law ["_law_script"] f33 _ := ⟨F_law, PySem.W.mg_of X G a33, F_law.binds fun _ _ _ _ _ _ us hl => match us, hl with | [_], _ => rfl⟩
  have e := hfa.symm.trans (PySem.W.mg_of X G a33)
  cases e
  refine ⟨PySem.W.fnOf "law" "law" (defArgs s_law) (defBody s_law) (defScope s_law) .none kV33 dc33 pm33 an33 cd33 ct33, fun s v => .of_eq rfl, fun base _ _ => ?_⟩
  have ok0 := Gam.Ok.nil (P := l.prog) (w := w) (K := K) (mg := mg) (base := base) (blts_mk X G hz)
  have C_LETTERS := PySem.W.mg_of X G g0
  have C_LONGEST_NAME := PySem.W.mg_of X G g1
  have H_deck := mk_ok ok0 F_law_deck sc_law_deck ck_law_deck
  have ok1 := ok0.draw D_law_draw sc_law_draw ck_law_draw
  have ok2 := ok1.glob (glob_str C_LETTERS)
  have ok3 := ok2.glob (glob_int C_LONGEST_NAME)
  have ok4 := ok3.def (i := .pu (pfCount)) D_is_count sc_is_count ck_is_count (fun ds R h => by unfold pfCount at h; split at h <;> first | rfl | exact h.elim) (k_count _ )
  have ok5 := ok4.def (i := .pu (pfMost)) D_is_most sc_is_most ck_is_most (fun ds R h => by unfold pfMost at h; split at h <;> first | rfl | exact h.elim) (k_most _ (by infer_instance))
  have ok6 := ok5.def (i := .pu (pfLess)) D_is_less sc_is_less ck_is_less (fun ds R h => by unfold pfLess at h; split at h <;> first | rfl | exact h.elim) (k_less _ )
  have ok7 := ok6.def (i := .pu (pfName)) D_is_name sc_is_name ck_is_name (fun ds R h => by unfold pfName at h; split at h <;> first | rfl | exact h.elim) (k_name _ (by infer_instance) (by infer_instance))
  have ok8 := ok7.def (i := .pu (pfAsc)) D_are_ascending sc_are_ascending ck_are_ascending (fun ds R h => by unfold pfAsc at h; split at h <;> first | rfl | exact h.elim) (k_asc _ )
  have ok9 := ok8.def (i := .pu (pfRoom)) D_is_room sc_is_room ck_is_room (fun ds R h => by unfold pfRoom at h; split at h <;> first | rfl | exact h.elim) (k_room _ )
  have ok10 := ok9.def (i := .pu (pfSides)) D_are_sides sc_are_sides ck_are_sides (fun ds R h => by unfold pfSides at h; split at h <;> first | rfl | exact h.elim) (k_sides _ (by infer_instance))
  have ok11 := ok10.def (i := .pu (pfSidesD)) D_door_sides sc_door_sides ck_door_sides (fun ds R h => by unfold pfSidesD at h; split at h <;> first | rfl | exact h.elim) (k_dsides _ )
  have ok12 := ok11.def (i := .pu (pfOwn)) D_is_own_door sc_is_own_door ck_is_own_door (fun ds R h => by unfold pfOwn at h; split at h <;> first | rfl | exact h.elim) (k_own _ (by infer_instance))
  have ok13 := ok12.def (i := .pu (pfDoorsOf)) D_doors_of sc_doors_of ck_doors_of (fun ds R h => by unfold pfDoorsOf at h; split at h <;> first | rfl | exact h.elim) (k_doorsOf _ )
  have ok14 := ok13.def (i := .pu (pfBnds)) D_are_bounds sc_are_bounds ck_are_bounds (fun ds R h => by unfold pfBnds at h; split at h <;> first | rfl | exact h.elim) (k_bnds _ (by infer_instance) (by infer_instance) (by infer_instance))
  have ok15 := ok14.def (i := .pu (pfPass)) D_is_passage sc_is_passage ck_is_passage (fun ds R h => by unfold pfPass at h; split at h <;> first | rfl | exact h.elim) (k_pass _ (by infer_instance) (by infer_instance))
  have ok16 := ok15.def (i := .pu (pfRcount)) D_is_room_count sc_is_room_count ck_is_room_count (fun ds R h => by unfold pfRcount at h; split at h <;> first | rfl | exact h.elim) (k_rcount _ (by infer_instance) (by infer_instance))
  have ok17 := ok16.def (i := .pu (pfWcount)) D_is_whole_count sc_is_whole_count ck_is_whole_count (fun ds R h => by unfold pfWcount at h; split at h <;> first | rfl | exact h.elim) (k_wcount _ (by infer_instance))
  have ok18 := ok17.def (i := .pu (pfJoin)) D_is_joining sc_is_joining ck_is_joining (fun ds R h => by unfold pfJoin at h; split at h <;> first | rfl | exact h.elim) (k_join _ (by infer_instance) (by infer_instance))
  have ok19 := ok18.def (i := .pu (pfPart)) D_is_parting sc_is_parting ck_is_parting (fun ds R h => by unfold pfPart at h; split at h <;> first | rfl | exact h.elim) (k_part _ (by infer_instance) (by infer_instance) (by infer_instance) (by infer_instance))
  have ok20 := ok19.def (i := .pu (pfNew)) D_is_new_door sc_is_new_door ck_is_new_door (fun ds R h => by unfold pfNew at h; split at h <;> first | rfl | exact h.elim) (k_new _ (by infer_instance) (by infer_instance) (by infer_instance))
  have ok21 := ok20.tab (x := "LINE_CHECKS") (t := tblK) (ktab_rows (n := nd0) [⟨"beam", 1, .pu pfOwn, th0_0, tt0_0, tp0_0, f8⟩, ⟨"went", 2, .pu pfPass, th0_1, tt0_1, tp0_1, f11⟩, ⟨"open", 1, .pu pfOwn, th0_2, tt0_2, tp0_2, f8⟩, ⟨"room", 3, .pu pfRcount, th0_3, tt0_3, tp0_3, f12⟩, ⟨"all", 2, .pu pfWcount, th0_4, tt0_4, tp0_4, f13⟩, ⟨"joined", 3, .pu pfJoin, th0_5, tt0_5, tp0_5, f14⟩, ⟨"parted", 4, .pu pfPart, th0_6, tt0_6, tp0_6, f15⟩, ⟨"door", 3, .pu pfNew, th0_7, tt0_7, tp0_7, f16⟩, ⟨"shut", 1, .pu pfOwn, th0_8, tt0_8, tp0_8, f8⟩] (PySem.W.mg_of X G dg0) dl0 low0 (fun r hr => by
    simp only [List.mem_cons, List.not_mem_nil, or_false] at hr
    rcases hr with rfl | rfl | rfl | rfl | rfl | rfl | rfl | rfl | rfl
    · exact ⟨hh0_0, ⟨_, _, _, _, tl0_0, rfl, rfl, rfl⟩, (ok20.fn "is_own_door" _ (by infer_instance)).toF D_is_own_door.mg⟩
    · exact ⟨hh0_1, ⟨_, _, _, _, tl0_1, rfl, rfl, rfl⟩, (ok20.fn "is_passage" _ (by infer_instance)).toF D_is_passage.mg⟩
    · exact ⟨hh0_2, ⟨_, _, _, _, tl0_2, rfl, rfl, rfl⟩, (ok20.fn "is_own_door" _ (by infer_instance)).toF D_is_own_door.mg⟩
    · exact ⟨hh0_3, ⟨_, _, _, _, tl0_3, rfl, rfl, rfl⟩, (ok20.fn "is_room_count" _ (by infer_instance)).toF D_is_room_count.mg⟩
    · exact ⟨hh0_4, ⟨_, _, _, _, tl0_4, rfl, rfl, rfl⟩, (ok20.fn "is_whole_count" _ (by infer_instance)).toF D_is_whole_count.mg⟩
    · exact ⟨hh0_5, ⟨_, _, _, _, tl0_5, rfl, rfl, rfl⟩, (ok20.fn "is_joining" _ (by infer_instance)).toF D_is_joining.mg⟩
    · exact ⟨hh0_6, ⟨_, _, _, _, tl0_6, rfl, rfl, rfl⟩, (ok20.fn "is_parting" _ (by infer_instance)).toF D_is_parting.mg⟩
    · exact ⟨hh0_7, ⟨_, _, _, _, tl0_7, rfl, rfl, rfl⟩, (ok20.fn "is_new_door" _ (by infer_instance)).toF D_is_new_door.mg⟩
    · exact ⟨hh0_8, ⟨_, _, _, _, tl0_8, rfl, rfl, rfl⟩, (ok20.fn "is_own_door" _ (by infer_instance)).toF D_is_own_door.mg⟩))
  have ok22 := ok21.defK (pf := pfLine) (ks := ["thing", "building"]) (π := [1,0]) D_is_line sc_is_line ck_is_line (fun ds R h => by unfold pfLine at h; split at h <;> first | rfl | exact h.elim) (k_line _ (by infer_instance)) (Fun.kwb F_is_line fun _ _ _ _ _ _ ws hl => match ws, hl with | [_, _], _ => rfl)
  have ok23 := ok22.def (i := .dk (pfPick)) D_law_pick sc_law_pick ck_law_pick (fun ds k R h => by unfold pfPick at h; split at h <;> first | rfl | exact h.elim) (k_pick _ (by infer_instance))
  have ok24 := ok23.def (i := .dk (pfNames)) D_law_names sc_law_names ck_law_names (fun ds k R h => by unfold pfNames at h; split at h <;> first | rfl | exact h.elim) (k_names _ (by infer_instance))
  have ok25 := ok24.def (i := .dk (pfHouse)) D_law_house sc_law_house ck_law_house (fun ds k R h => by unfold pfHouse at h; split at h <;> first | rfl | exact h.elim) (k_house _ (by infer_instance) (by infer_instance))
  have ok26 := ok25.def (i := .pu (pfName)) D_law_is_name sc_law_is_name ck_law_is_name (fun ds R h => by unfold pfName at h; split at h <;> first | rfl | exact h.elim) (k_lname _ )
  have ok27 := ok26.def (i := .pu (pfSidesD)) D_law_sides sc_law_sides ck_law_sides (fun ds R h => by unfold pfSidesD at h; split at h <;> first | rfl | exact h.elim) (k_lsides _ )
  have ok28 := ok27.def (i := .pu (pfOneOf)) D_law_is_one_of sc_law_is_one_of ck_law_is_one_of (fun ds R h => by unfold pfOneOf at h; split at h <;> first | rfl | exact h.elim) (k_oneof _ )
  have ok29 := ok28.def (i := .pu (pfBnds)) D_law_are_bounds sc_law_are_bounds ck_law_are_bounds (fun ds R h => by unfold pfBnds at h; split at h <;> first | rfl | exact h.elim) (k_lbnds _ )
  have ok30 := ok29.def (i := .pu (pfFence)) D_law_is_fence_line sc_law_is_fence_line ck_law_is_fence_line (fun ds R h => by unfold pfFence at h; split at h <;> first | rfl | exact h.elim) (k_fence _ (by infer_instance) (by infer_instance) (by infer_instance))
  have ok31 := ok30.def (i := .pu (pfLLine)) D_law_is_line sc_law_is_line ck_law_is_line (fun ds R h => by unfold pfLLine at h; split at h <;> first | rfl | exact h.elim) (k_lline _ (by infer_instance) (by infer_instance) (by infer_instance) (by infer_instance))
  have ok32 := ok31.def (i := .dk (pfBent 0)) D_law_bent sc_law_bent ck_law_bent (fun ds k R h => by unfold pfBent at h; split at h <;> first | rfl | exact h.elim) (k_bent 0 _ (by infer_instance) (by infer_instance) (.inl rfl))
  have ok33 := ok32.def (i := .dk (pfBent 1)) D_law_bent sc_law_bent ck_law_bent (fun ds k R h => by unfold pfBent at h; split at h <;> first | rfl | exact h.elim) (k_bent 1 _ (by infer_instance) (by infer_instance) (.inr ⟨_, rfl, by infer_instance⟩))
  have ok34 := ok33.def (i := .dk (pfBent 2)) D_law_bent sc_law_bent ck_law_bent (fun ds k R h => by unfold pfBent at h; split at h <;> first | rfl | exact h.elim) (k_bent 2 _ (by infer_instance) (by infer_instance) (.inr ⟨_, rfl, by infer_instance⟩))
  have ok35 := ok34.def (i := .dk (pfBent 3)) D_law_bent sc_law_bent ck_law_bent (fun ds k R h => by unfold pfBent at h; split at h <;> first | rfl | exact h.elim) (k_bent 3 _ (by infer_instance) (by infer_instance) (.inr ⟨_, rfl, by infer_instance⟩))
  have ok36 := ok35.def (i := .dk (pfTry)) D_law_try sc_law_try ck_law_try (fun ds k R h => by unfold pfTry at h; split at h <;> first | rfl | exact h.elim) (k_try _ (by infer_instance) (by infer_instance))
  have ok37 := ok36.def (i := .pu (pfHand)) D_law_by_hand sc_law_by_hand ck_law_by_hand (fun ds R h => by unfold pfHand at h; split at h <;> first | rfl | exact h.elim) (k_hand _ )
  have ok38 := ok37.def (i := .pu (pfSo)) D_law_so sc_law_so ck_law_so (fun ds R h => by unfold pfSo at h; split at h <;> first | rfl | exact h.elim) (k_so _ (by infer_instance) (by infer_instance) (by infer_instance))
  exact law_ok ok38 ⟨⟨_, _, _, 1, Nat.le_of_ble_eq_true rfl, H_deck, D_law_deck.mg, D_law_deck.fn.kp, D_law_deck.bd⟩⟩ F_law sc_law (by decide) b_law ck_law (k_law _ (by infer_instance) (by infer_instance) (by infer_instance) (by infer_instance) (by infer_instance) (by infer_instance) (by infer_instance))
end Q

open PySem PySem.W PyProof.Rows
set_option maxRecDepth 100000 in
set_option maxHeartbeats 0 in
theorem PySem.Challenge.cw_doorbeams_k04_lines_about_walls_and_door_holds : PySem.Challenge.rw_doorbeams_k04_lines_about_walls_and_door.Holds := by
  w_on; o_law; k_head; (case hw => w_witness2)
  k_fill
  refine Pz.walkZ (k := 36) (x := "_law_script") (l := PySem.Challenge.rw_doorbeams_k04_lines_about_walls_and_door) rfl rfl ⟨rfl, by decide, by decide⟩ (by decide +kernel) (fun w h Y => PySem.W.kIn_of Y) ?kmods ?kfun
  case kmods =>
    intro w
    rfl
  case kfun =>
    intro w mg fa h KX G hmg
    refine' Q.all_mk KX G hmg ?a0 ?l0 ?c0 ?k0 ?a1 ?l1 ?c1 ?k1 ?a2 ?l2 ?c2 ?k2 ?a3 ?l3 ?c3 ?k3 ?a4 ?l4 ?c4 ?k4 ?a5 ?l5 ?c5 ?k5 ?a6 ?l6 ?c6 ?k6 ?a7 ?l7 ?c7 ?k7 ?a8 ?l8 ?c8 ?k8 ?a9 ?l9 ?c9 ?k9 ?a10 ?l10 ?c10 ?k10 ?a11 ?l11 ?c11 ?k11 ?a12 ?l12 ?c12 ?k12 ?a13 ?l13 ?c13 ?k13 ?a14 ?l14 ?c14 ?k14 ?a15 ?l15 ?c15 ?k15 ?a16 ?l16 ?c16 ?k16 ?a17 ?l17 ?c17 ?k17 ?a18 ?l18 ?c18 ?k18 ?a19 ?l19 ?c19 ?k19 ?a20 ?l20 ?c20 ?k20 ?a21 ?l21 ?c21 ?k21 ?a22 ?l22 ?c22 ?k22 ?a23 ?l23 ?c23 ?k23 ?a24 ?l24 ?c24 ?k24 ?a25 ?l25 ?c25 ?k25 ?a26 ?l26 ?c26 ?k26 ?a27 ?l27 ?c27 ?k27 ?a28 ?l28 ?c28 ?k28 ?a29 ?l29 ?c29 ?k29 ?a30 ?l30 ?c30 ?k30 ?a31 ?l31 ?c31 ?k31 ?a32 ?l32 ?c32 ?k32 ?a33 ?l33 ?c33 ?k33 ?z0 ?z1 ?z2 ?z3 ?z4 ?z5 ?z6 ?z7 ?z8 ?z9 ?z10 ?z11 ?z12 ?z13 ?z14 ?z15 ?z16 ?z17 ?z18 ?z19 ?cst0 ?cst1 ?dg0 ?dl0 ?low0 ?hh0_0 ?tl0_0 ?hh0_1 ?tl0_1 ?hh0_2 ?tl0_2 ?hh0_3 ?tl0_3 ?hh0_4 ?tl0_4 ?hh0_5 ?tl0_5 ?hh0_6 ?tl0_6 ?hh0_7 ?tl0_7 ?hh0_8 ?tl0_8
    (case a0 => k_is); (case l0 => k_is); (case c0 => k_is); (case k0 => k_is)
    (case a1 => k_is); (case l1 => k_is); (case c1 => k_is); (case k1 => k_is)
    (case a2 => k_is); (case l2 => k_is); (case c2 => k_is); (case k2 => k_is)
    (case a3 => k_is); (case l3 => k_is); (case c3 => k_is); (case k3 => k_is)
    (case a4 => k_is); (case l4 => k_is); (case c4 => k_is); (case k4 => k_is)
    (case a5 => k_is); (case l5 => k_is); (case c5 => k_is); (case k5 => k_is)
    (case a6 => k_is); (case l6 => k_is); (case c6 => k_is); (case k6 => k_is)
    (case a7 => k_is); (case l7 => k_is); (case c7 => k_is); (case k7 => k_is)
    (case a8 => k_is); (case l8 => k_is); (case c8 => k_is); (case k8 => k_is)
    (case a9 => k_is); (case l9 => k_is); (case c9 => k_is); (case k9 => k_is)
    (case a10 => k_is); (case l10 => k_is); (case c10 => k_is); (case k10 => k_is)
    (case a11 => k_is); (case l11 => k_is); (case c11 => k_is); (case k11 => k_is)
    (case a12 => k_is); (case l12 => k_is); (case c12 => k_is); (case k12 => k_is)
    (case a13 => k_is); (case l13 => k_is); (case c13 => k_is); (case k13 => k_is)
    (case a14 => k_is); (case l14 => k_is); (case c14 => k_is); (case k14 => k_is)
    (case a15 => k_is); (case l15 => k_is); (case c15 => k_is); (case k15 => k_is)
    (case a16 => k_is); (case l16 => k_is); (case c16 => k_is); (case k16 => k_is)
    (case a17 => k_is); (case l17 => k_is); (case c17 => k_is); (case k17 => k_is)
    (case a18 => k_is); (case l18 => k_is); (case c18 => k_is); (case k18 => k_is)
    (case a19 => k_is); (case l19 => k_is); (case c19 => k_is); (case k19 => k_is)
    (case a20 => k_is); (case l20 => k_is); (case c20 => k_is); (case k20 => k_is)
    (case a21 => k_is); (case l21 => k_is); (case c21 => k_is); (case k21 => k_is)
    (case a22 => k_is); (case l22 => k_is); (case c22 => k_is); (case k22 => k_is)
    (case a23 => k_is); (case l23 => k_is); (case c23 => k_is); (case k23 => k_is)
    (case a24 => k_is); (case l24 => k_is); (case c24 => k_is); (case k24 => k_is)
    (case a25 => k_is); (case l25 => k_is); (case c25 => k_is); (case k25 => k_is)
    (case a26 => k_is); (case l26 => k_is); (case c26 => k_is); (case k26 => k_is)
    (case a27 => k_is); (case l27 => k_is); (case c27 => k_is); (case k27 => k_is)
    (case a28 => k_is); (case l28 => k_is); (case c28 => k_is); (case k28 => k_is)
    (case a29 => k_is); (case l29 => k_is); (case c29 => k_is); (case k29 => k_is)
    (case a30 => k_is); (case l30 => k_is); (case c30 => k_is); (case k30 => k_is)
    (case a31 => k_is); (case l31 => k_is); (case c31 => k_is); (case k31 => k_is)
    (case a32 => k_is); (case l32 => k_is); (case c32 => k_is); (case k32 => k_is)
    (case a33 => k_is); (case l33 => k_is); (case c33 => k_is); (case k33 => k_is)
    (case z0 => k_is)
    (case z1 => k_is)
    (case z2 => k_is)
    (case z3 => k_is)
    (case z4 => k_is)
    (case z5 => k_is)
    (case z6 => k_is)
    (case z7 => k_is)
    (case z8 => k_is)
    (case z9 => k_is)
    (case z10 => k_is)
    (case z11 => k_is)
    (case z12 => k_is)
    (case z13 => k_is)
    (case z14 => k_is)
    (case z15 => k_is)
    (case z16 => k_is)
    (case z17 => k_is)
    (case z18 => k_is)
    (case z19 => k_is)
    (case cst0 => k_is)
    (case cst1 => k_is)
    (case dg0 => k_is); (case dl0 => k_is); (case low0 => rfl)
    (case hh0_0 => rfl); (case tl0_0 => k_is)
    (case hh0_1 => rfl); (case tl0_1 => k_is)
    (case hh0_2 => rfl); (case tl0_2 => k_is)
    (case hh0_3 => rfl); (case tl0_3 => k_is)
    (case hh0_4 => rfl); (case tl0_4 => k_is)
    (case hh0_5 => rfl); (case tl0_5 => k_is)
    (case hh0_6 => rfl); (case tl0_6 => k_is)
    (case hh0_7 => rfl); (case tl0_7 => k_is)
    (case hh0_8 => rfl); (case tl0_8 => k_is)
#print axioms PySem.Challenge.cw_doorbeams_k04_lines_about_walls_and_door_holds
