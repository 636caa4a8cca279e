import PyProof.Rows.All
import Wide.All
import OpenK.AllK
import Wide.FinOn
import PyProof.ReprRoads
import HandS.ForMost
import HandS.Style
import HandS.Flow
import HandS.IsInst
import HandS.TupAny
import HandS.TupMul
import KE.DataEq
import KE.DataIsa
import KE.DataAny
import HandS.Text
import KE.SortData
import HandS.TryOnly
import HandS.Ends
import PyProof.ReprBulk
import PyProof.Rows.StrJoinMade
import PyProof.Rows.StrDigitsNeg
import PySem.Challenge.RW_doorbeams_k09_stands_of_any_value
set_option Elab.async false
set_option linter.all false

set_option maxRecDepth 100000
set_option maxHeartbeats 4000000
/-! Pz, part 1: data trees, what in the abstract heap stands for them, the state of a def. -/
namespace Pz
open PySem L2

/-- a plain datum -/
inductive D where
  | non
  | bl (b : Bool)
  | int (i : Int)
  | str (x : Str)
  | lst (xs : List D)
  | tup (xs : List D)
  | dic (ks : List Key) (xs : List D)
  | dit (ks : List (List Key)) (xs : List D)
  | ins (C : Addr) (ns : List Str) (xs : List D)
  | cst (v : V)

mutual
/-- v stands for d in the heap H -/
def Rp (K : PySem.W.Frag) (H : Hp) : D → V → Prop
  | .non, v => v = .non
  | .bl b, v => v = .bl b
  | .int i, v => v = .int i
  | .str x, v => v = .str x
  | .lst xs, v => ∃ a vs, v = .ref a ∧ H a = some (.lst vs) ∧ RpL K H xs vs
  | .tup xs, v => ∃ a vs, v = .ref a ∧ SqT K H a vs ∧ RpL K H xs vs
  | .dic ks xs, v => ∃ a vs, v = .ref a ∧ H a = some (.dK (ks.zip vs)) ∧ ks.length = xs.length ∧ RpL K H xs vs
  | .dit ks xs, v => ∃ a vs, v = .ref a ∧ H a = some (.dT (ks.zip vs)) ∧ ks.length = xs.length ∧ RpL K H xs vs
  | .ins C ns xs, v => ∃ a dx vs, v = .ref a ∧ H a = some (.ins C dx (ns.zip vs)) ∧ ns.length = xs.length ∧ RpL K H xs vs
  | .cst u, v => v = u
def RpL (K : PySem.W.Frag) (H : Hp) : List D → List V → Prop
  | [], vs => vs = []
  | d :: ds, vs => ∃ v r, vs = v :: r ∧ Rp K H d v ∧ RpL K H ds r
end

/-! ### growth -/
theorem same_t {K : PySem.W.Frag} {H H' : Hp} {a : Addr} {xs : List V} (e : Same H H') (h : SqT K H a xs) : SqT K H' a xs := by
  rcases h with (h | ⟨o, h⟩) | h
  · exact .inl (.inl (e _ _ h))
  · exact .inl (.inr ⟨o, e _ _ h⟩)
  · exact .inr h
mutual
theorem Rp.mono {K : PySem.W.Frag} {H H' : Hp} (e : Same H H') : ∀ (d : D) (v : V), Rp K H d v → Rp K H' d v
  | .non, _, h => h
  | .bl _, _, h => h
  | .int _, _, h => h
  | .str _, _, h => h
  | .lst xs, _, ⟨a, vs, h1, h2, h3⟩ => ⟨a, vs, h1, e _ _ h2, RpL.mono e xs vs h3⟩
  | .tup xs, _, ⟨a, vs, h1, h2, h3⟩ => ⟨a, vs, h1, same_t e h2, RpL.mono e xs vs h3⟩
  | .dic _ xs, _, ⟨a, vs, h1, h2, h4, h3⟩ => ⟨a, vs, h1, e _ _ h2, h4, RpL.mono e xs vs h3⟩
  | .dit _ xs, _, ⟨a, vs, h1, h2, h4, h3⟩ => ⟨a, vs, h1, e _ _ h2, h4, RpL.mono e xs vs h3⟩
  | .ins _ _ xs, _, ⟨a, dx, vs, h1, h2, h4, h3⟩ => ⟨a, dx, vs, h1, e _ _ h2, h4, RpL.mono e xs vs h3⟩
  | .cst _, _, h => h
theorem RpL.mono {K : PySem.W.Frag} {H H' : Hp} (e : Same H H') : ∀ (ds : List D) (vs : List V), RpL K H ds vs → RpL K H' ds vs
  | [], _, h => h
  | d :: ds, _, ⟨v, r, h1, h2, h3⟩ => ⟨v, r, h1, Rp.mono e d v h2, RpL.mono e ds r h3⟩
end
theorem RpL.length {K : PySem.W.Frag} {H : Hp} : ∀ {ds : List D} {vs : List V}, RpL K H ds vs → ds.length = vs.length
  | [], _, h => by cases (show _ = [] from h); rfl
  | d :: ds, _, ⟨v, r, h1, h2, h3⟩ => by subst h1; simp [RpL.length h3]
theorem RpL.nil {K : PySem.W.Frag} {H : Hp} : RpL K H [] [] := rfl
theorem RpL.cons {K : PySem.W.Frag} {H : Hp} {d : D} {ds : List D} {v : V} {vs : List V} (h : Rp K H d v) (t : RpL K H ds vs) : RpL K H (d :: ds) (v :: vs) := ⟨v, vs, rfl, h, t⟩
theorem RpL.append {K : PySem.W.Frag} {H : Hp} : ∀ {ds es : List D} {vs ws : List V}, RpL K H ds vs → RpL K H es ws → RpL K H (ds ++ es) (vs ++ ws)
  | [], _, _, _, h, t => by cases (show _ = [] from h); exact t
  | d :: ds, _, _, _, ⟨v, r, h1, h2, h3⟩, t => by subst h1; exact ⟨v, _, rfl, h2, RpL.append h3 t⟩
theorem RpL.get {K : PySem.W.Frag} {H : Hp} : ∀ {ds : List D} {vs : List V} {i : Nat} {d : D}, RpL K H ds vs → ds[i]? = some d → ∃ v, vs[i]? = some v ∧ Rp K H d v
  | [], _, _, _, _, e => by simp at e
  | d :: ds, _, 0, _, ⟨v, r, h1, h2, h3⟩, e => by subst h1; simp at e; subst e; exact ⟨v, rfl, h2⟩
  | d :: ds, _, i + 1, _, ⟨v, r, h1, h2, h3⟩, e => by
    subst h1
    obtain ⟨u, q1, q2⟩ := RpL.get (i := i) h3 (by simpa using e)
    exact ⟨u, by simpa using q1, q2⟩
theorem RpL.getV {K : PySem.W.Frag} {H : Hp} {ds : List D} {vs : List V} {i : Nat} {v : V} (h : RpL K H ds vs) (e : vs[i]? = some v) : ∃ d, ds[i]? = some d ∧ Rp K H d v := by
  have hl := h.length
  have hi : i < ds.length := by rw [hl]; exact (List.getElem?_eq_some_iff.mp e).1
  obtain ⟨u, q1, q2⟩ := h.get (i := i) (d := ds[i]) (by simp [hi])
  rw [e] at q1; cases q1
  exact ⟨_, by simp [hi], q2⟩
theorem RpL.drop {K : PySem.W.Frag} {H : Hp} : ∀ {ds : List D} {vs : List V} (n : Nat), RpL K H ds vs → RpL K H (ds.drop n) (vs.drop n)
  | _, _, 0, h => h
  | [], _, n + 1, h => by cases (show _ = [] from h); exact rfl
  | d :: ds, _, n + 1, ⟨v, r, h1, h2, h3⟩ => by subst h1; exact RpL.drop n h3
theorem RpL.take {K : PySem.W.Frag} {H : Hp} : ∀ {ds : List D} {vs : List V} (n : Nat), RpL K H ds vs → RpL K H (ds.take n) (vs.take n)
  | _, _, 0, h => rfl
  | [], _, n + 1, h => by cases (show _ = [] from h); exact rfl
  | d :: ds, _, n + 1, ⟨v, r, h1, h2, h3⟩ => by subst h1; exact ⟨v, _, rfl, h2, RpL.take n h3⟩
theorem RpL.set {K : PySem.W.Frag} {H : Hp} {d : D} {v : V} (h0 : Rp K H d v) : ∀ {ds : List D} {vs : List V} (n : Nat), RpL K H ds vs → RpL K H (ds.set n d) (vs.set n v)
  | [], _, _, h => by cases (show _ = [] from h); exact rfl
  | _ :: ds, _, 0, ⟨v, r, h1, h2, h3⟩ => by subst h1; exact ⟨_, _, rfl, h0, h3⟩
  | _ :: ds, _, n + 1, ⟨v, r, h1, h2, h3⟩ => by subst h1; exact ⟨_, _, rfl, h2, RpL.set h0 n h3⟩
theorem RpL.reverse {K : PySem.W.Frag} {H : Hp} : ∀ {ds : List D} {vs : List V}, RpL K H ds vs → RpL K H ds.reverse vs.reverse
  | [], _, h => by cases (show _ = [] from h); exact rfl
  | d :: ds, _, ⟨v, r, h1, h2, h3⟩ => by subst h1; rw [List.reverse_cons, List.reverse_cons]; exact (RpL.reverse h3).append (.cons h2 .nil)
theorem RpL.eraseIdx {K : PySem.W.Frag} {H : Hp} : ∀ {ds : List D} {vs : List V} (n : Nat), RpL K H ds vs → RpL K H (ds.eraseIdx n) (vs.eraseIdx n)
  | [], _, _, h => by cases (show _ = [] from h); exact rfl
  | _ :: ds, _, 0, ⟨v, r, h1, h2, h3⟩ => by subst h1; exact h3
  | _ :: ds, _, n + 1, ⟨v, r, h1, h2, h3⟩ => by subst h1; exact ⟨_, _, rfl, h2, RpL.eraseIdx n h3⟩
theorem RpL.dropLast {K : PySem.W.Frag} {H : Hp} {ds : List D} {vs : List V} (h : RpL K H ds vs) : RpL K H ds.dropLast vs.dropLast := by
  rw [List.dropLast_eq_take, List.dropLast_eq_take, h.length]
  exact h.take _
theorem RpL.ints {K : PySem.W.Frag} {H : Hp} : ∀ (ns : List Int), RpL K H (ns.map D.int) (ns.map V.int)
  | [] => rfl
  | n :: ns => ⟨_, _, rfl, rfl, RpL.ints ns⟩
theorem RpL.strs {K : PySem.W.Frag} {H : Hp} : ∀ (ns : List Str), RpL K H (ns.map D.str) (ns.map V.str)
  | [] => rfl
  | n :: ns => ⟨_, _, rfl, rfl, RpL.strs ns⟩
theorem RpL.bls {K : PySem.W.Frag} {H : Hp} : ∀ (ns : List Bool), RpL K H (ns.map D.bl) (ns.map V.bl)
  | [] => rfl
  | n :: ns => ⟨_, _, rfl, rfl, RpL.bls ns⟩
theorem RpL.of_ints {K : PySem.W.Frag} {H : Hp} : ∀ {ns : List Int} {vs : List V}, RpL K H (ns.map D.int) vs → vs = ns.map V.int
  | [], _, h => h
  | n :: ns, _, ⟨v, r, h1, h2, h3⟩ => by subst h1; cases (show v = _ from h2); rw [RpL.of_ints h3]; rfl
theorem RpL.of_strs {K : PySem.W.Frag} {H : Hp} : ∀ {ns : List Str} {vs : List V}, RpL K H (ns.map D.str) vs → vs = ns.map V.str
  | [], _, h => h
  | n :: ns, _, ⟨v, r, h1, h2, h3⟩ => by subst h1; cases (show v = _ from h2); rw [RpL.of_strs h3]; rfl
theorem RpL.of_bls {K : PySem.W.Frag} {H : Hp} : ∀ {ns : List Bool} {vs : List V}, RpL K H (ns.map D.bl) vs → vs = ns.map V.bl
  | [], _, h => h
  | n :: ns, _, ⟨v, r, h1, h2, h3⟩ => by subst h1; cases (show v = _ from h2); rw [RpL.of_bls h3]; rfl

/-- the object itself in H, its items in Hs -/
def Rt (K : PySem.W.Frag) (Hs H : Hp) : D → V → Prop
  | .lst xs, v => ∃ a vs, v = .ref a ∧ H a = some (.lst vs) ∧ RpL K Hs xs vs
  | .dic ks xs, v => ∃ a vs, v = .ref a ∧ H a = some (.dK (ks.zip vs)) ∧ ks.length = xs.length ∧ RpL K Hs xs vs
  | .tup xs, v => Rp K Hs (.tup xs) v
  | .dit ks xs, v => Rp K Hs (.dit ks xs) v
  | .ins C ns xs, v => Rp K Hs (.ins C ns xs) v
  | .non, v => v = .non
  | .bl b, v => v = .bl b
  | .int i, v => v = .int i
  | .str x, v => v = .str x
  | .cst u, v => v = u
theorem Rt.of {K : PySem.W.Frag} {Hs H : Hp} (e : Same Hs H) : ∀ {d : D} {v : V}, Rp K Hs d v → Rt K Hs H d v
  | .non, _, h => h
  | .bl _, _, h => h
  | .int _, _, h => h
  | .str _, _, h => h
  | .lst xs, _, ⟨a, vs, h1, h2, h3⟩ => ⟨a, vs, h1, e _ _ h2, h3⟩
  | .tup xs, _, h => h
  | .dic _ xs, _, ⟨a, vs, h1, h2, h4, h3⟩ => ⟨a, vs, h1, e _ _ h2, h4, h3⟩
  | .dit _ xs, _, h => h
  | .ins _ _ xs, _, h => h
  | .cst _, _, h => h
theorem Rt.rp {K : PySem.W.Frag} {Hs H : Hp} (e : Same Hs H) : ∀ {d : D} {v : V}, Rt K Hs H d v → Rp K H d v
  | .non, _, h => h
  | .bl _, _, h => h
  | .int _, _, h => h
  | .str _, _, h => h
  | .lst xs, _, ⟨a, vs, h1, h2, h3⟩ => ⟨a, vs, h1, h2, RpL.mono e _ _ h3⟩
  | .tup xs, _, h => Rp.mono e _ _ h
  | .dic _ xs, _, ⟨a, vs, h1, h2, h4, h3⟩ => ⟨a, vs, h1, h2, h4, RpL.mono e _ _ h3⟩
  | .dit _ xs, _, h => Rp.mono e _ _ h
  | .ins _ _ xs, _, h => Rp.mono e _ _ h
  | .cst _, _, h => h
def RtL (K : PySem.W.Frag) (Hs H : Hp) : List D → List V → Prop
  | [], vs => vs = []
  | d :: ds, vs => ∃ v r, vs = v :: r ∧ Rt K Hs H d v ∧ RtL K Hs H ds r

/-- the interpreter's table of modules is known and stays -/
def Sys (H : Hp) : Prop := ∃ o φ, H sysModules = some (.frz o (.ext φ))
theorem Sys.mono {H H' : Hp} (e : Same H H') (h : Sys H) : Sys H' := let ⟨o, φ, q⟩ := h; ⟨o, φ, e _ _ q⟩

/-! ### the state of a def -/
structure Pm where
  K : PySem.W.Frag
  dk : Option (Addr × Addr)
  Hs0 : Hp
  H0 : Hp
def inDk (dk : Option (Addr × Addr)) (b : Addr) : Prop := match dk with
  | none => False
  | some (p, c) => b = p ∨ b = c
/-- the deck as it stands: k draws so far -/
def Dk (dk : Option (Addr × Addr)) (Hs H : Hp) (k : Nat) : Prop := match dk with
  | none => True
  | some (p, c) => p ≠ c ∧ Hs p = none ∧ Hs c = none ∧ ∃ (m : Int) (ns : List Int), H p = some (.lst [.ref c, .int m, .int k]) ∧ H c = some (.lst (ns.map V.int)) ∧ ns.length ≤ 63
theorem Dk.there {dk : Option (Addr × Addr)} {Hs H : Hp} {k : Nat} (h : Dk dk Hs H k) {b : Addr} (hb : inDk dk b) : ∃ o, H b = some o := by
  cases dk with
  | none => exact hb.elim
  | some pc =>
    obtain ⟨p, c⟩ := pc
    obtain ⟨_, _, _, m, ns, h1, h2, _⟩ := h
    rcases hb with rfl | rfl
    · exact ⟨_, h1⟩
    · exact ⟨_, h2⟩
theorem Dk.nos {dk : Option (Addr × Addr)} {Hs H : Hp} {k : Nat} (h : Dk dk Hs H k) {b : Addr} (hb : inDk dk b) : Hs b = none := by
  cases dk with
  | none => exact hb.elim
  | some pc =>
    obtain ⟨p, c⟩ := pc
    obtain ⟨_, h1, h2, _⟩ := h
    rcases hb with rfl | rfl
    · exact h1
    · exact h2
theorem Dk.to {dk : Option (Addr × Addr)} {Hs Hs' H H' : Hp} {k : Nat} (h : Dk dk Hs H k) (h1 : ∀ b, inDk dk b → Hs' b = none) (h2 : ∀ b, inDk dk b → H' b = H b) : Dk dk Hs' H' k := by
  cases dk with
  | none => trivial
  | some pc =>
    obtain ⟨p, c⟩ := pc
    obtain ⟨n, _, _, m, ns, e1, e2, l⟩ := h
    exact ⟨n, h1 p (.inl rfl), h1 c (.inr rfl), m, ns, by rw [h2 p (.inl rfl)]; exact e1, by rw [h2 c (.inr rfl)]; exact e2, l⟩

/-- what a slot holds: a datum; a list, a dict of the def's own that nobody else knows -/
inductive B where
  | d (x : D)
  | l (xs : List D)
  | m (ks : List Key) (xs : List D)
def B.own : B → Bool
  | .d _ => false
  | _ => true
def B.dat : B → D
  | .d x => x
  | .l xs => .lst xs
  | .m ks xs => .dic ks xs
structure S where
  v : List (Option B)
  k : Nat
def Own (P : Pm) (Hs H : Hp) : B → V → Prop
  | .d x, v => Rp P.K Hs x v
  | .l xs, v => ∃ a vs, v = .ref a ∧ Hs a = none ∧ P.H0 a = none ∧ H a = some (.lst vs) ∧ RpL P.K Hs xs vs
  | .m ks xs, v => ∃ a vs, v = .ref a ∧ Hs a = none ∧ P.H0 a = none ∧ H a = some (.dK (ks.zip vs)) ∧ ks.length = xs.length ∧ RpL P.K Hs xs vs
/-- the slots and the heap bear the state; Hs is what stays as it is -/
structure ER (P : Pm) (Hs H : Hp) (σ : St) (ρ : S) : Prop where
  sub : Same Hs H
  grow : Same P.Hs0 Hs
  keep : ∀ b o, P.H0 b = some o → ¬ inDk P.dk b → H b = some o
  old : ∀ b, P.H0 b ≠ none → P.Hs0 b = none → Hs b = none
  dk : Dk P.dk Hs H ρ.k
  dkin : ∀ b, inDk P.dk b → P.H0 b ≠ none
  len : σ.length = ρ.v.length
  slot : ∀ (i : Nat) (x : B), ρ.v[i]? = some (some x) → ∃ v, σ[i]? = some (some v) ∧ Own P Hs H x v
  apart : ∀ (i j : Nat) (x y : B) (v : V), i ≠ j → ρ.v[i]? = some (some x) → x.own = true → ρ.v[j]? = some (some y) → y.own = true → σ[i]? = some (some v) → σ[j]? ≠ some (some v)
  sys : Sys P.Hs0
theorem ER.sysH {P : Pm} {Hs H : Hp} {σ : St} {ρ : S} (E : ER P Hs H σ ρ) : Sys H := Sys.mono (E.grow.trans E.sub) E.sys

/-- what an expression gives: a datum, a new list or dict, or what a slot holds -/
inductive Res where
  | d (x : D)
  | l (xs : List D)
  | m (ks : List Key) (xs : List D)
  | p (i : Nat)
def Fresh (σ : St) (ρ : S) (v : V) : Prop := ∀ (i : Nat) (x : B), ρ.v[i]? = some (some x) → x.own = true → σ[i]? ≠ some (some v)
def RR (P : Pm) (Hs H : Hp) (σ : St) (ρ : S) (v : V) : Res → Prop
  | .d x => Rp P.K Hs x v
  | .l xs => Own P Hs H (.l xs) v ∧ Fresh σ ρ v
  | .m ks xs => Own P Hs H (.m ks xs) v ∧ Fresh σ ρ v
  | .p i => σ[i]? = some (some v) ∧ ∃ x, ρ.v[i]? = some (some x) ∧ x.own = true

/-- an operand: a datum that stays, or a slot's -/
inductive O where
  | d (x : D)
  | p (i : Nat)
def Res.fz : Res → O
  | .d x => .d x
  | .l xs => .d (.lst xs)
  | .m ks xs => .d (.dic ks xs)
  | .p i => .p i
def O.look (ρ : S) : O → Option D
  | .d x => some x
  | .p i => match ρ.v[i]? with
    | some (some x) => some x.dat
    | _ => none
def RO (P : Pm) (Hs : Hp) (σ : St) (v : V) : O → Prop
  | .d x => Rp P.K Hs x v
  | .p i => σ[i]? = some (some v)
theorem RO.mono {P : Pm} {Hs Hs' : Hp} {σ : St} {v : V} {o : O} (e : Same Hs Hs') (h : RO P Hs σ v o) : RO P Hs' σ v o := by
  cases o with
  | d x => exact Rp.mono e _ _ h
  | p i => exact h
theorem Own.rt {P : Pm} {Hs H : Hp} {x : B} {v : V} (e : Same Hs H) (h : Own P Hs H x v) : Rt P.K Hs H x.dat v := by
  cases x with
  | d x => exact Rt.of e h
  | l xs => obtain ⟨a, vs, h1, _, _, h2, h3⟩ := h; exact ⟨a, vs, h1, h2, h3⟩
  | m ks xs => obtain ⟨a, vs, h1, _, _, h2, h4, h3⟩ := h; exact ⟨a, vs, h1, h2, h4, h3⟩
theorem RO.rt {P : Pm} {Hs H : Hp} {σ : St} {ρ : S} {v : V} {o : O} {x : D} (E : ER P Hs H σ ρ) (h : RO P Hs σ v o) (e : o.look ρ = some x) : Rt P.K Hs H x v := by
  cases o with
  | d y => cases e; exact Rt.of E.sub h
  | p i =>
    simp only [O.look] at e
    split at e
    · rename_i b hb
      cases e
      obtain ⟨u, h1, h2⟩ := E.slot i b hb
      have h : σ[i]? = some (some v) := h
      rw [h] at h1; cases h1
      exact h2.rt E.sub
    · cases e

section
variable {P : Pm} {Hs Hs' H H' : Hp} {σ : St} {ρ : S} {v : V} {r : Res}
theorem Same.upd {H : Hp} {a : Addr} {o : HO} (h : H a = none) : Same H (upd H a o) := fun b u e => by
  rw [upd_ne (ne_of_none e h)]
  exact e
theorem Own.grow {b : B} (e : Same Hs Hs') (hn : ∀ a, v = .ref a → b.own = true → Hs' a = none) (h : Own P Hs H b v) : Own P Hs' H b v := by
  cases b with
  | d x => exact Rp.mono e _ _ h
  | l xs => obtain ⟨a, vs, h1, h2, h3, h4, h5⟩ := h; exact ⟨a, vs, h1, hn a h1 rfl, h3, h4, RpL.mono e _ _ h5⟩
  | m ks xs => obtain ⟨a, vs, h1, h2, h3, h4, h6, h5⟩ := h; exact ⟨a, vs, h1, hn a h1 rfl, h3, h4, h6, RpL.mono e _ _ h5⟩
/-- one more object stays as it is -/
theorem ER.add {a : Addr} {o : HO} (E : ER P Hs H σ ρ) (hs : Hs a = none) (h0 : P.H0 a = none) (h : H a = some o) (hf : Fresh σ ρ (.ref a)) : ER P (upd Hs a o) H σ ρ where
  sub := fun b u e => by
    by_cases z : b = a
    · subst z; rw [upd_same] at e; cases e; exact h
    · rw [upd_ne z] at e; exact E.sub b u e
  grow := fun b u e => by rw [upd_ne (ne_of_none (E.grow b u e) hs)]; exact E.grow b u e
  keep := E.keep
  old := fun b h1 h2 => by
    have z : b ≠ a := fun z => h1 (z ▸ h0)
    rw [upd_ne z]; exact E.old b h1 h2
  dk := E.dk.to (fun b hb => by
    have z : b ≠ a := fun z => E.dkin b hb (z ▸ h0)
    rw [upd_ne z]; exact E.dk.nos hb) fun _ _ => rfl
  dkin := E.dkin
  len := E.len
  slot := fun i x e => by
    obtain ⟨v, h1, h2⟩ := E.slot i x e
    refine ⟨v, h1, h2.grow (Same.upd hs) fun b hb hx => ?_⟩
    subst hb
    have z : b ≠ a := fun z => hf i x e hx (z ▸ h1)
    rw [upd_ne z]
    cases x with
    | d x => cases hx
    | l xs => obtain ⟨_, _, q, q2, _⟩ := h2; cases q; exact q2
    | m ks xs => obtain ⟨_, _, q, q2, _⟩ := h2; cases q; exact q2
  apart := E.apart
  sys := E.sys
theorem Own.ref {b : B} (h : Own P Hs H b v) (hb : b.own = true) : ∃ a o, v = .ref a ∧ Hs a = none ∧ P.H0 a = none ∧ H a = some o := by
  cases b with
  | d x => cases hb
  | l xs => obtain ⟨a, vs, h1, h2, h3, h4, _⟩ := h; exact ⟨a, _, h1, h2, h3, h4⟩
  | m ks xs => obtain ⟨a, vs, h1, h2, h3, h4, _⟩ := h; exact ⟨a, _, h1, h2, h3, h4⟩
/-- an own object becomes a datum -/
theorem Own.freeze {b : B} (E : ER P Hs H σ ρ) (h : Own P Hs H b v) (hb : b.own = true) (hf : Fresh σ ρ v) : ∃ Hs', Same Hs Hs' ∧ ER P Hs' H σ ρ ∧ Rp P.K Hs' b.dat v := by
  cases b with
  | d x => cases hb
  | l xs =>
    obtain ⟨a, vs, rfl, h2, h3, h4, h5⟩ := h
    exact ⟨_, Same.upd h2, E.add h2 h3 h4 hf, a, vs, rfl, upd_same, RpL.mono (Same.upd h2) _ _ h5⟩
  | m ks xs =>
    obtain ⟨a, vs, rfl, h2, h3, h4, h6, h5⟩ := h
    exact ⟨_, Same.upd h2, E.add h2 h3 h4 hf, a, vs, rfl, upd_same, h6, RpL.mono (Same.upd h2) _ _ h5⟩
/-- a result becomes an operand -/
theorem RR.fz (E : ER P Hs H σ ρ) (h : RR P Hs H σ ρ v r) : ∃ Hs', Same Hs Hs' ∧ ER P Hs' H σ ρ ∧ RO P Hs' σ v r.fz := by
  cases r with
  | d x => exact ⟨Hs, Same.refl _, E, h⟩
  | l xs => exact Own.freeze (b := .l xs) E h.1 rfl h.2
  | m ks xs => exact Own.freeze (b := .m ks xs) E h.1 rfl h.2
  | p i => exact ⟨Hs, Same.refl _, E, h.1⟩
/-- a slot's own object becomes a datum -/
def S.fz (ρ : S) (i : Nat) : S := match ρ.v[i]? with
  | some (some x) => { ρ with v := ρ.v.set i (some (.d x.dat)) }
  | _ => ρ
theorem S.fz_k (i : Nat) : (ρ.fz i).k = ρ.k := by unfold S.fz; split <;> rfl
/-- forgetting that a slot's object is the def's own -/
theorem ER.slotD {i : Nat} {b : B} {o : HO} {a : Addr} (E : ER P Hs H σ ρ) (hi : ρ.v[i]? = some (some b)) (hb : b.own = true) (hv : σ[i]? = some (some v)) :
    ∃ Hs', Same Hs Hs' ∧ ER P Hs' H σ { ρ with v := ρ.v.set i (some (.d b.dat)) } ∧ Rp P.K Hs' b.dat v := by
  have hil : i < ρ.v.length := (List.getElem?_eq_some_iff.mp hi).1
  obtain ⟨u, h1, h2⟩ := E.slot i b hi
  rw [hv] at h1; cases h1
  -- the state without the slot
  have E1 : ER P Hs H σ { ρ with v := ρ.v.set i none } := by
    refine ⟨E.sub, E.grow, E.keep, E.old, E.dk, E.dkin, by simpa using E.len, fun j x e => ?_, fun j k x y u n e1 o1 e2 o2 => ?_, E.sys⟩
    · by_cases z : j = i
      · subst z; simp [hil] at e
      · exact E.slot j x (by simpa [List.getElem?_set_ne (Ne.symm z)] using e)
    · have f : ∀ {j : Nat} {x : B}, (ρ.v.set i none)[j]? = some (some x) → ρ.v[j]? = some (some x) := fun {j x} e => by
        by_cases z : j = i
        · subst z; simp [hil] at e
        · simpa [List.getElem?_set_ne (Ne.symm z)] using e
      exact E.apart j k x y u n (f e1) o1 (f e2) o2
  have hf : Fresh σ { ρ with v := ρ.v.set i none } v := fun j x e hx hj => by
    by_cases z : j = i
    · subst z; simp [hil] at e
    · have e' : ρ.v[j]? = some (some x) := by simpa [List.getElem?_set_ne (Ne.symm z)] using e
      exact E.apart i j b x v (Ne.symm z) hi hb e' hx hv hj
  obtain ⟨Hs', g, E2, q⟩ := Own.freeze E1 h2 hb hf
  refine ⟨Hs', g, ⟨E2.sub, E2.grow, E2.keep, E2.old, E2.dk, E2.dkin, by simpa using E.len, fun j x e => ?_, fun j k x y u n e1 o1 e2 o2 => ?_, E.sys⟩, q⟩
  · by_cases z : j = i
    · subst z
      simp [hil] at e
      subst e
      exact ⟨v, hv, q⟩
    · exact E2.slot j x (by simpa [List.getElem?_set_ne (Ne.symm z)] using e)
  · have f : ∀ {j : Nat} {x : B}, x.own = true → (ρ.v.set i (some (.d b.dat)))[j]? = some (some x) → ρ.v[j]? = some (some x) := fun {j x} ox e => by
      by_cases z : j = i
      · subst z; simp [hil] at e; subst e; cases ox
      · simpa [List.getElem?_set_ne (Ne.symm z)] using e
    exact E.apart j k x y u n (f o1 e1) o1 (f o2 e2) o2
end
end Pz

set_option maxRecDepth 100000
set_option maxHeartbeats 4000000
/-! Pz, part 2: how the state goes on; judgements. -/
namespace Pz
open PySem L2

/-- what an operation gives: something known, or a new object -/
inductive NR (K : PySem.W.Frag) (Hs H : Hp) : V → Res → Hp → Prop
  | old {z : V} {x : D} : Rp K Hs x z → NR K Hs H z (.d x) H
  | nl {p : Addr} {vs : List V} {ds : List D} : H p = none → RpL K Hs ds vs → NR K Hs H (.ref p) (.l ds) (upd H p (.lst vs))
  | nt {p : Addr} {vs : List V} {ds : List D} : H p = none → RpL K Hs ds vs → NR K Hs H (.ref p) (.d (.tup ds)) (upd H p (.tup vs))
  | nm {p : Addr} {vs : List V} {ks : List Key} {ds : List D} : H p = none → ks.length = ds.length → RpL K Hs ds vs → NR K Hs H (.ref p) (.m ks ds) (upd H p (.dK (ks.zip vs)))

def S.set (ρ : S) (i : Nat) (b : B) : S := { ρ with v := ρ.v.set i (some b) }
def S.un (ρ : S) (i : Nat) : S := { ρ with v := ρ.v.set i none }
theorem S.set_get {ρ : S} {i j : Nat} {b x : B} (e : (ρ.set i b).v[j]? = some (some x)) : (j = i ∧ x = b) ∨ (j ≠ i ∧ ρ.v[j]? = some (some x)) := by
  by_cases z : j = i
  · subst z
    by_cases hl : j < ρ.v.length
    · simp [S.set, hl] at e; exact .inl ⟨rfl, e.symm⟩
    · have q : (ρ.v.set j (some b))[j]? = some (some x) := e
      rw [List.getElem?_eq_none (by simpa using Nat.le_of_not_lt hl)] at q; cases q
  · exact .inr ⟨z, by simpa [S.set, List.getElem?_set_ne (Ne.symm z)] using e⟩
theorem S.un_get {ρ : S} {i j : Nat} {x : B} (e : (ρ.un i).v[j]? = some (some x)) : j ≠ i ∧ ρ.v[j]? = some (some x) := by
  by_cases z : j = i
  · subst z
    by_cases hl : j < ρ.v.length
    · simp [S.un, hl] at e
    · have q : (ρ.v.set j none)[j]? = some (some x) := e
      rw [List.getElem?_eq_none (by simpa using Nat.le_of_not_lt hl)] at q; cases q
  · exact ⟨z, by simpa [S.un, List.getElem?_set_ne (Ne.symm z)] using e⟩
theorem S.fz_of {ρ : S} {i : Nat} {b : B} (h : ρ.v[i]? = some (some b)) : ρ.fz i = ρ.set i (.d b.dat) := by
  unfold S.fz S.set
  rw [h]
theorem S.fz_no {ρ : S} {i : Nat} (h : ∀ b, ρ.v[i]? ≠ some (some b)) : ρ.fz i = ρ := by
  unfold S.fz
  split
  · rename_i x e; exact absurd e (h x)
  · rfl

section
variable {P : Pm} {Hs Hs' H H' : Hp} {σ : St} {ρ : S} {v : V} {r : Res}
/-- a new object -/
theorem ER.new {p : Addr} {o : HO} (E : ER P Hs H σ ρ) (hp : H p = none) : ER P Hs (upd H p o) σ ρ ∧ Hs p = none ∧ P.H0 p = none ∧ Fresh σ ρ (.ref p) := by
  have hs : Hs p = none := Same.free E.sub hp
  have h0 : P.H0 p = none := by
    cases q : P.H0 p with
    | none => rfl
    | some u =>
      by_cases z : inDk P.dk p
      · obtain ⟨o, e⟩ := E.dk.there z; rw [hp] at e; cases e
      · have := E.keep p u q z; rw [hp] at this; cases this
  have hd : ∀ b, inDk P.dk b → b ≠ p := fun b hb z => E.dkin b hb (z ▸ h0)
  refine ⟨⟨fun b u e => ?_, E.grow, fun b u e n => ?_, E.old, E.dk.to (fun b hb => E.dk.nos hb) fun b hb => upd_ne (hd b hb), E.dkin, E.len, fun i x e => ?_, E.apart, E.sys⟩, hs, h0, fun i x e hx hi => ?_⟩
  · have := E.sub b u e
    rw [upd_ne (ne_of_none this hp)]; exact this
  · have := E.keep b u e n
    rw [upd_ne (ne_of_none this hp)]; exact this
  · obtain ⟨v, h1, h2⟩ := E.slot i x e
    refine ⟨v, h1, ?_⟩
    cases x with
    | d x => exact h2
    | l xs => obtain ⟨a, vs, q1, q2, q3, q4, q5⟩ := h2; exact ⟨a, vs, q1, q2, q3, by rw [upd_ne (ne_of_none q4 hp)]; exact q4, q5⟩
    | m ks xs => obtain ⟨a, vs, q1, q2, q3, q4, q6, q5⟩ := h2; exact ⟨a, vs, q1, q2, q3, by rw [upd_ne (ne_of_none q4 hp)]; exact q4, q6, q5⟩
  · obtain ⟨v, h1, h2⟩ := E.slot i x e
    rw [hi] at h1; cases h1
    obtain ⟨a, o', q1, _, _, q2⟩ := h2.ref hx
    cases q1
    rw [hp] at q2; cases q2
theorem NR.er {res : Res} (E : ER P Hs H σ ρ) (h : NR P.K Hs H v res H') : ∃ Hs', Same Hs Hs' ∧ ER P Hs' H' σ ρ ∧ RR P Hs' H' σ ρ v res := by
  cases h with
  | old h => exact ⟨Hs, Same.refl _, E, h⟩
  | nl hp hr =>
    obtain ⟨E1, hs, h0, hf⟩ := E.new (o := .lst _) hp
    exact ⟨Hs, Same.refl _, E1, ⟨_, _, rfl, hs, h0, upd_same, hr⟩, hf⟩
  | nt hp hr =>
    obtain ⟨E1, hs, h0, hf⟩ := E.new (o := .tup _) hp
    exact ⟨_, Same.upd hs, E1.add hs h0 upd_same hf, _, _, rfl, SqT.of upd_same, RpL.mono (Same.upd hs) _ _ hr⟩
  | nm hp hl hr =>
    obtain ⟨E1, hs, h0, hf⟩ := E.new (o := .dK _) hp
    exact ⟨Hs, Same.refl _, E1, ⟨_, _, rfl, hs, h0, upd_same, hl, hr⟩, hf⟩

/-- the slot's object becomes a datum, or nothing was to be done -/
theorem ER.fz {i : Nat} (E : ER P Hs H σ ρ) (hv : σ[i]? = some (some v)) {x : D} (hx : O.look ρ (.p i) = some x) : ∃ Hs', Same Hs Hs' ∧ ER P Hs' H σ (ρ.fz i) ∧ Rp P.K Hs' x v := by
  simp only [O.look] at hx
  split at hx
  · rename_i b hb
    cases hx
    rw [S.fz_of hb]
    cases ho : b.own with
    | true => exact E.slotD (o := .tbl #[]) (a := 0) hb ho hv
    | false =>
      cases b with
      | d x =>
        obtain ⟨u, h1, h2⟩ := E.slot i _ hb
        rw [hv] at h1; cases h1
        have e : ρ.set i (.d (B.d x).dat) = ρ := by
          unfold S.set
          have : ρ.v.set i (some (B.d x)) = ρ.v := by
            refine List.ext_getElem? fun j => ?_
            by_cases z : i = j
            · subst z; rw [List.getElem?_set_self (List.getElem?_eq_some_iff.mp hb).1, hb]
            · rw [List.getElem?_set_ne z]
          show ({ ρ with v := ρ.v.set i (some (B.d x)) } : S) = ρ
          rw [this]
        rw [e]
        exact ⟨Hs, Same.refl _, E, h2⟩
      | l _ => cases ho
      | m _ _ => cases ho
  · cases hx
/-- an operand that is to stay -/
def O.fz (ρ : S) : O → S
  | .d _ => ρ
  | .p i => ρ.fz i
theorem O.er {o : O} {x : D} (E : ER P Hs H σ ρ) (h : RO P Hs σ v o) (e : o.look ρ = some x) : ∃ Hs', Same Hs Hs' ∧ ER P Hs' H σ (o.fz ρ) ∧ Rp P.K Hs' x v := by
  cases o with
  | d y => cases e; exact ⟨Hs, Same.refl _, E, h⟩
  | p i => exact E.fz h e

/-- a slot is stored -/
theorem ER.set {i : Nat} {b : B} (E : ER P Hs H σ ρ) (hi : i < ρ.v.length) (h : Own P Hs H b v) (hf : b.own = true → Fresh σ (ρ.un i) v) : ER P Hs H (σ.set i (some v)) (ρ.set i b) where
  sub := E.sub
  grow := E.grow
  keep := E.keep
  old := E.old
  dk := E.dk
  dkin := E.dkin
  len := by simpa [S.set] using E.len
  slot := fun j x e => by
    rcases S.set_get e with ⟨rfl, rfl⟩ | ⟨n, e⟩
    · exact ⟨v, by rw [List.getElem?_set_self (by rw [E.len]; exact hi)], h⟩
    · rw [List.getElem?_set_ne (Ne.symm n)]; exact E.slot j x e
  apart := fun j k x y u n e1 o1 e2 o2 => by
    have back : ∀ {j : Nat} {x : B}, j ≠ i → ρ.v[j]? = some (some x) → (ρ.un i).v[j]? = some (some x) := fun {j x} n e => by simpa [S.un, List.getElem?_set_ne (Ne.symm n)] using e
    rcases S.set_get e1 with ⟨z1, rfl⟩ | ⟨n1, f1⟩ <;> rcases S.set_get e2 with ⟨z2, rfl⟩ | ⟨n2, f2⟩
    · exact absurd (z1.trans z2.symm) n
    · subst z1
      rw [List.getElem?_set_self (by rw [E.len]; exact hi), List.getElem?_set_ne (Ne.symm n2)]
      intro q; cases q
      exact hf o1 k y (back n2 f2) o2
    · subst z2
      rw [List.getElem?_set_self (by rw [E.len]; exact hi), List.getElem?_set_ne (Ne.symm n1)]
      intro q q'; cases q'
      exact hf o2 j x (back n1 f1) o1 q
    · rw [List.getElem?_set_ne (Ne.symm n1), List.getElem?_set_ne (Ne.symm n2)]
      exact E.apart j k x y u n f1 o1 f2 o2
  sys := E.sys
/-- a name is bound to a result -/
def S.put (ρ : S) (i : Nat) : Res → S
  | .d x => ρ.set i (.d x)
  | .l xs => ρ.set i (.l xs)
  | .m ks xs => ρ.set i (.m ks xs)
  | .p j => match O.look ρ (.p j) with
    | some x => (ρ.fz j).set i (.d x)
    | none => ρ
theorem S.fz_len (i : Nat) : (ρ.fz i).v.length = ρ.v.length := by
  unfold S.fz; split <;> simp
theorem Fresh.un {i : Nat} (h : Fresh σ ρ v) : Fresh σ (ρ.un i) v := fun j x e hx => h j x (S.un_get e).2 hx
theorem ER.put {i : Nat} (E : ER P Hs H σ ρ) (hi : i < ρ.v.length) (h : RR P Hs H σ ρ v r) : ∃ Hs', Same Hs Hs' ∧ ER P Hs' H (σ.set i (some v)) (ρ.put i r) := by
  cases r with
  | d x => exact ⟨Hs, Same.refl _, E.set hi h fun z => by cases z⟩
  | l xs => exact ⟨Hs, Same.refl _, E.set (b := .l xs) hi h.1 fun _ => h.2.un⟩
  | m ks xs => exact ⟨Hs, Same.refl _, E.set (b := .m ks xs) hi h.1 fun _ => h.2.un⟩
  | p j =>
    obtain ⟨h1, b, h2, h3⟩ := h
    have hl : O.look ρ (.p j) = some b.dat := by simp only [O.look, h2]
    obtain ⟨Hs', g, E', q⟩ := E.fz h1 hl
    refine ⟨Hs', g, ?_⟩
    simp only [S.put, hl]
    exact E'.set (by rw [S.fz_len]; exact hi) q fun z => by cases z
/-- the def's own object is changed -/
theorem ER.mut {i : Nat} {b b' : B} {a : Addr} {o : HO} (E : ER P Hs H σ ρ) (hi : ρ.v[i]? = some (some b)) (ho : b.own = true) (hv : σ[i]? = some (some (.ref a))) (h : Own P Hs (upd H a o) b' (.ref a)) (ho' : b'.own = true) : ER P Hs (upd H a o) σ (ρ.set i b') := by
  obtain ⟨u, h1, h2⟩ := E.slot i b hi
  rw [hv] at h1; cases h1
  obtain ⟨a', o', q, hs, h0, hH⟩ := h2.ref ho
  cases q
  have hd : ∀ c, inDk P.dk c → c ≠ a := fun c hc z => E.dkin c hc (z ▸ h0)
  have hil : i < ρ.v.length := (List.getElem?_eq_some_iff.mp hi).1
  refine ⟨fun c u e => ?_, E.grow, fun c u e n => ?_, E.old, E.dk.to (fun c hc => E.dk.nos hc) fun c hc => upd_ne (hd c hc), E.dkin, by simpa [S.set] using E.len, fun j x e => ?_, fun j k x y u n e1 o1 e2 o2 => ?_, E.sys⟩
  · rw [upd_ne (ne_of_none e hs)]; exact E.sub c u e
  · rw [upd_ne (ne_of_none e h0)]; exact E.keep c u e n
  · rcases S.set_get e with ⟨rfl, rfl⟩ | ⟨n, e⟩
    · exact ⟨_, hv, h⟩
    · obtain ⟨w, q1, q2⟩ := E.slot j x e
      refine ⟨w, q1, ?_⟩
      cases x with
      | d x => exact q2
      | l xs =>
        obtain ⟨c, vs, rfl, z2, z3, z4, z5⟩ := q2
        have nc : c ≠ a := fun z => E.apart j i _ b _ n e rfl hi ho q1 (z ▸ hv)
        exact ⟨c, vs, rfl, z2, z3, by rw [upd_ne nc]; exact z4, z5⟩
      | m ks xs =>
        obtain ⟨c, vs, rfl, z2, z3, z4, z6, z5⟩ := q2
        have nc : c ≠ a := fun z => E.apart j i _ b _ n e rfl hi ho q1 (z ▸ hv)
        exact ⟨c, vs, rfl, z2, z3, by rw [upd_ne nc]; exact z4, z6, z5⟩
  · have f : ∀ {j : Nat} {x : B}, (ρ.set i b').v[j]? = some (some x) → x.own = true → ∃ x', ρ.v[j]? = some (some x') ∧ x'.own = true := fun {j x} e ox => by
      rcases S.set_get e with ⟨rfl, rfl⟩ | ⟨n, e⟩
      · exact ⟨b, hi, ho⟩
      · exact ⟨x, e, ox⟩
    obtain ⟨x', f1, f2⟩ := f e1 o1
    obtain ⟨y', f3, f4⟩ := f e2 o2
    exact E.apart j k x' y' u n f1 f2 f3 f4
/-- slots are forgotten -/
theorem ER.un {i : Nat} (E : ER P Hs H σ ρ) : ER P Hs H (σ.set i none) (ρ.un i) := by
  refine ⟨E.sub, E.grow, E.keep, E.old, E.dk, E.dkin, by simpa [S.un] using E.len, fun j x e => ?_, fun j k x y u n e1 o1 e2 o2 => ?_, E.sys⟩
  · obtain ⟨n, e⟩ := S.un_get e
    rw [List.getElem?_set_ne (Ne.symm n)]; exact E.slot j x e
  · obtain ⟨n1, e1⟩ := S.un_get e1
    obtain ⟨n2, e2⟩ := S.un_get e2
    rw [List.getElem?_set_ne (Ne.symm n1), List.getElem?_set_ne (Ne.symm n2)]
    exact E.apart j k x y u n e1 o1 e2 o2
def S.uns (ρ : S) : List Nat → S
  | [] => ρ
  | v :: vs => (ρ.uns vs).un v
theorem ER.uns (E : ER P Hs H σ ρ) : ∀ vs : List Nat, ER P Hs H (wipe σ vs) (ρ.uns vs)
  | [] => E
  | v :: vs => (ER.uns E vs).un
/-- behind a call: the callers' objects are as they were, but the deck -/
theorem ER.called {k : Nat} (E : ER P Hs H σ ρ) (g : Same Hs Hs') (s : Same Hs' H') (kp : ∀ b o, H b = some o → ¬ inDk P.dk b → H' b = some o) (old : ∀ b, H b ≠ none → Hs b = none → Hs' b = none) (hd : Dk P.dk Hs' H' k) :
    ER P Hs' H' σ { ρ with k := k } := by
  have hdk : ∀ b, inDk P.dk b → P.H0 b ≠ none := E.dkin
  refine ⟨s, E.grow.trans g, fun b o e n => kp b o (E.keep b o e n) n, fun b h1 h2 => ?_, hd, E.dkin, E.len, fun i x e => ?_, E.apart, E.sys⟩
  · refine old b ?_ (E.old b h1 h2)
    by_cases z : inDk P.dk b
    · obtain ⟨o, q⟩ := E.dk.there z; rw [q]; exact fun z => by cases z
    · cases q : P.H0 b with
      | none => exact absurd q h1
      | some o => rw [E.keep b o q z]; exact fun z => by cases z
  · obtain ⟨v, h1, h2⟩ := E.slot i x e
    refine ⟨v, h1, ?_⟩
    cases x with
    | d x => exact Rp.mono g _ _ h2
    | l xs =>
      obtain ⟨a, vs, rfl, z2, z3, z4, z5⟩ := h2
      have na : ¬ inDk P.dk a := fun z => E.dkin a z z3
      exact ⟨a, vs, rfl, old a (by rw [z4]; exact fun z => by cases z) z2, z3, kp _ _ z4 na, RpL.mono g _ _ z5⟩
    | m ks xs =>
      obtain ⟨a, vs, rfl, z2, z3, z4, z6, z5⟩ := h2
      have na : ¬ inDk P.dk a := fun z => E.dkin a z z3
      exact ⟨a, vs, rfl, old a (by rw [z4]; exact fun z => by cases z) z2, z3, kp _ _ z4 na, z6, RpL.mono g _ _ z5⟩
end

/-! ### judgements -/
abbrev W := S → (Res → S → Prop) → Prop
abbrev WT := S → (Bool → S → Prop) → Prop
abbrev WA := S → (List O → S → Prop) → Prop
structure C where
  nx : S → Prop
  rt : Res → S → Prop
  bk : S → Prop
  ct : S → Prop
abbrev WS := S → C → Prop
def ROs (P : Pm) (Hs : Hp) (σ : St) : List V → List O → Prop
  | vs, [] => vs = []
  | vs, o :: os => ∃ v r, vs = v :: r ∧ RO P Hs σ v o ∧ ROs P Hs σ r os
/- τ: values that wait (the parts of a tuple that are reckoned already) -/
def lift (P : Pm) (w : W) : TE := fun σ H Q => ∃ (τ : List V) (Hs : Hp) (ρ : S) (R : Res → S → Prop), ER P Hs H (σ ++ τ.map some) ρ ∧ w ρ R ∧ ∀ Hs' H' ρ' v r, Same Hs Hs' → ER P Hs' H' (σ ++ τ.map some) ρ' → RR P Hs' H' (σ ++ τ.map some) ρ' v r → R r ρ' → Q v H'
def liftT (P : Pm) (w : WT) : TT := fun σ H Q => ∃ (τ : List V) (Hs : Hp) (ρ : S) (R : Bool → S → Prop), ER P Hs H (σ ++ τ.map some) ρ ∧ w ρ R ∧ ∀ Hs' H' ρ' b, Same Hs Hs' → ER P Hs' H' (σ ++ τ.map some) ρ' → R b ρ' → Q b H'
def liftA (P : Pm) (w : WA) : TA := fun σ H Q => ∃ (τ : List V) (Hs : Hp) (ρ : S) (R : List O → S → Prop), ER P Hs H (σ ++ τ.map some) ρ ∧ w ρ R ∧ ∀ Hs' H' ρ' vs os, Same Hs Hs' → ER P Hs' H' (σ ++ τ.map some) ρ' → ROs P Hs' (σ ++ τ.map some) vs os → R os ρ' → Q vs H'
def liftS (P : Pm) (w : WS) : TS := fun D σ H => ∃ (Hs : Hp) (ρ : S) (c : C), ER P Hs H σ ρ ∧ w ρ c ∧ (∀ σ' Hs' H' ρ', Same Hs Hs' → ER P Hs' H' σ' ρ' → c.nx ρ' → D.nx σ' H') ∧
  (∀ σ' Hs' H' ρ' v r, Same Hs Hs' → ER P Hs' H' σ' ρ' → RR P Hs' H' σ' ρ' v r → c.rt r ρ' → D.rt v H') ∧ (∀ σ' Hs' H' ρ', Same Hs Hs' → ER P Hs' H' σ' ρ' → c.bk ρ' → D.bk σ' H') ∧ (∀ σ' Hs' H' ρ', Same Hs Hs' → ER P Hs' H' σ' ρ' → c.ct ρ' → D.ct σ' H')
/-- the parameters fit the context -/
structure Fit (X : Cx) (dk : Option (Addr × Addr)) (P : Pm) : Prop where
  K : P.K = X.K
  dk : P.dk = dk
def JE (X : Cx) (dk : Option (Addr × Addr)) (e : Expr) (w : W) : Prop := ∀ P, Fit X dk P → PE X e (lift P w)
def JT (X : Cx) (dk : Option (Addr × Addr)) (e : Expr) (w : WT) : Prop := ∀ P, Fit X dk P → PT X e (liftT P w)
def JW (X : Cx) (dk : Option (Addr × Addr)) (e : Expr) (w : WT) : Prop := ∀ P, Fit X dk P → PW X e (liftT P w)
def JA (X : Cx) (dk : Option (Addr × Addr)) (es : List Expr) (w : WA) : Prop := ∀ P, Fit X dk P → PA X es (liftA P w)
def JS (X : Cx) (dk : Option (Addr × Addr)) (st : Stmt) (w : WS) : Prop := ∀ P, Fit X dk P → PS X st (liftS P w)
def JSs (X : Cx) (dk : Option (Addr × Addr)) (st : List Stmt) (w : WS) : Prop := ∀ P, Fit X dk P → PSs X st (liftS P w)

section
variable {X : Cx} {e : Expr} {es : List Expr} {st : Stmt} {sts : List Stmt}
theorem pe_weak {t t' : TE} (h : PE X e t) (k : ∀ σ H Q, t' σ H Q → t σ H Q) : PE X e t' := ⟨fun pins s σ H Q I q => h.run pins s σ H Q I (k _ _ _ q)⟩
theorem pt_weak {t t' : TT} (h : PT X e t) (k : ∀ σ H Q, t' σ H Q → t σ H Q) : PT X e t' := ⟨fun pins s σ H Q I q => h.run pins s σ H Q I (k _ _ _ q)⟩
theorem pw_weak {t t' : TT} (h : PW X e t) (k : ∀ σ H Q, t' σ H Q → t σ H Q) : PW X e t' := ⟨fun wh pins s σ H Q I q => h.run wh pins s σ H Q I (k _ _ _ q)⟩
theorem pa_weak {t t' : TA} (h : PA X es t) (k : ∀ σ H Q, t' σ H Q → t σ H Q) : PA X es t' := ⟨fun pos pins s σ H Q I q => h.run pos pins s σ H Q I (k _ _ _ q)⟩
theorem ps_weak {t t' : TS} (h : PS X st t) (k : ∀ D σ H, t' D σ H → t D σ H) : PS X st t' := ⟨fun pins s σ H D I q => h.run pins s σ H D I (k _ _ _ q)⟩
theorem pss_weak {t t' : TS} (h : PSs X sts t) (k : ∀ D σ H, t' D σ H → t D σ H) : PSs X sts t' := ⟨fun pins s σ H D I q => h.run pins s σ H D I (k _ _ _ q)⟩
end
end Pz

set_option maxRecDepth 100000
set_option maxHeartbeats 4000000
/-! Pz, part 3: expressions. -/
namespace Pz
open PySem L2

/-! ### operations on data -/
abbrev F1 := D → (Res → Prop) → Prop
abbrev F2 := D → D → (Res → Prop) → Prop
abbrev FN := List D → (Res → Prop) → Prop
def fAdd : F2
  | .int i, .int j, R => R (.d (.int (i + j)))
  | .str x, .str y, R => x.length + y.length ≤ sizeLine ∧ R (.d (.str (x ++ y)))
  | .lst xs, .lst ys, R => xs.length + ys.length ≤ sizeLine ∧ R (.l (xs ++ ys))
  | .tup xs, .tup ys, R => xs.length + ys.length ≤ sizeLine ∧ R (.d (.tup (xs ++ ys)))
  | _, _, _ => False
def fSub : F2
  | .int i, .int j, R => R (.d (.int (i - j)))
  | _, _, _ => False
def strRep (x : Str) (n : Int) : Str := if n < 1 then Str.empty else if (n == 1 || x.length == 0) = true then x else ⟨(List.replicate n.toNat x.cps).foldl (· ++ ·) #[]⟩
def fMul : F2
  | .int i, .int j, R => CMul i j ∧ R (.d (.int (i * j)))
  | .lst xs, .int k, R => (-(2 ^ 63) ≤ k ∧ k < 2 ^ 63 ∧ xs.length * k.toNat ≤ sizeLine) ∧ R (.l (List.replicate k.toNat xs).flatten)
  | .str x, .int k, R => (-(2 ^ 63) ≤ k ∧ k < 2 ^ 63 ∧ x.length * k.toNat ≤ sizeLine) ∧ R (.d (.str (strRep x k)))
  | .tup xs, .int k, R => (xs ≠ [] ∧ 2 ≤ k ∧ k ≤ 1000 ∧ xs.length ≤ 1000) ∧ R (.d (.tup (List.replicate k.toNat xs).flatten))
  | _, _, _ => False
def fDiv : F2
  | .int i, .int j, R => CDiv i j ∧ R (.d (.int (i / j)))
  | _, _, _ => False
def fMod : F2
  | .int i, .int j, R => 0 < j ∧ R (.d (.int (i % j)))
  | _, _, _ => False
def fPow : F2
  | .int i, .int j, R => CPow i j ∧ R (.d (.int (i ^ j.toNat)))
  | _, _, _ => False
def fBor : F2
  | .int i, .int j, R => R (.d (.int (Builtin.bitOr i j)))
  | _, _, _ => False
def fBand : F2
  | .int i, .int j, R => R (.d (.int (Builtin.bitAnd i j)))
  | _, _, _ => False
def fBin : Operator → F2
  | .Add => fAdd
  | .Sub => fSub
  | .Mult => fMul
  | .FloorDiv => fDiv
  | .Mod => fMod
  | .Pow => fPow
  | .BitOr => fBor
  | .BitAnd => fBand
  | _ => fun _ _ _ => False
def fNeg : F1
  | .int i, R => R (.d (.int (-i)))
  | _, _ => False

def Op2 (K : PySem.W.Frag) (r : R2) (f : F2) : Prop := ∀ {Hs H : Hp} {x y : D} {v u : V} {R : Res → Prop} {Q : VK}, Same Hs H → Sys H → Rt K Hs H x v → Rt K Hs H y u → f x y R → (∀ z res H', NR K Hs H z res H' → R res → Q z H') → r v u H Q
def Op1 (K : PySem.W.Frag) (r : V → Hp → VK → Prop) (f : F1) : Prop := ∀ {Hs H : Hp} {x : D} {v : V} {R : Res → Prop} {Q : VK}, Same Hs H → Sys H → Rt K Hs H x v → f x R → (∀ z res H', NR K Hs H z res H' → R res → Q z H') → r v H Q
def OpN (K : PySem.W.Frag) (r : List V → Hp → VK → Prop) (f : FN) : Prop := ∀ {Hs H : Hp} {ds : List D} {vs : List V} {R : Res → Prop} {Q : VK}, Same Hs H → Sys H → RtL K Hs H ds vs → f ds R → (∀ z res H', NR K Hs H z res H' → R res → Q z H') → r vs H Q

section
variable {X : Cx} {K : PySem.W.Frag}
theorem nr_int {Hs H : Hp} {i : Int} : NR K Hs H (.int i) (.d (.int i)) H := .old rfl
theorem nr_bl {Hs H : Hp} {b : Bool} : NR K Hs H (.bl b) (.d (.bl b)) H := .old rfl
theorem nr_str {Hs H : Hp} {b : Str} : NR K Hs H (.str b) (.d (.str b)) H := .old rfl
theorem nr_non {Hs H : Hp} : NR K Hs H .non (.d .non) H := .old rfl

theorem rep_size (y : Array Nat) : ∀ (n : Nat) (acc : Array Nat), (List.foldl (fun x1 x2 => x1 ++ x2) acc (List.replicate n y)).size = acc.size + n * y.size
  | 0, acc => by simp
  | n + 1, acc => by
    rw [List.replicate_succ, List.foldl_cons, rep_size y n, Array.size_append, Nat.succ_mul]
    omega
theorem op_mul_sk : OpR X (binaryOp .Mult) (fun x y H Q => ∃ (z : Str) (k : Int), x = .str z ∧ y = .int k ∧ (-(2 ^ 63) ≤ k ∧ k < 2 ^ 63 ∧ z.length * k.toNat ≤ sizeLine) ∧ Q (.str (strRep z k)) H) := by
  intro pins s σ H x y v u Q I rx ry h
  obtain ⟨z, k, rfl, rfl, ⟨h1, h2, h4⟩, q⟩ := h
  obtain ⟨t, rfl⟩ := rx
  obtain ⟨t', rfl⟩ := ry
  have hs : sizeLine = 16777216 := sizeLine_eq
  refine PySem.P.mul_str ?_ (fun n1 _ => ?_) (fun n1 _ => ?_) ?_
  · have e1 : decide (k < -(2 ^ 63 : Int)) = false := decide_eq_false (by omega)
    have e2 : decide (k ≥ 2 ^ 63) = false := decide_eq_false (by omega)
    rw [e1, e2]; rfl
  · have hk : 0 < k := by omega
    have e : (z.length : Int) * k ≤ 2 ^ 63 - 1 := by
      have h5 : ((z.length * k.toNat : Nat) : Int) ≤ ((16777216 : Nat) : Int) := Int.ofNat_le.mpr (by rw [← hs]; exact h4)
      rw [Int.natCast_mul, Int.toNat_of_nonneg (by omega)] at h5
      omega
    have := (Int.le_ediv_iff_mul_le hk).mpr e
    omega
  · unfold Builtin.Str.tooLong
    exact decide_eq_false (by omega)
  · unfold strRep at q
    by_cases c1 : k < 1
    · rw [if_pos c1]; rw [if_pos c1] at q
      exact ⟨by show 0 ≤ sizeLine; omega, .str _, H, I.tok _, ⟨_, rfl⟩, q⟩
    · rw [if_neg c1]; rw [if_neg c1] at q
      by_cases c2 : (k == 1 || z.length == 0) = true
      · rw [if_pos c2]; rw [if_pos c2] at q
        exact ⟨.str _, H, I, ⟨_, rfl⟩, q⟩
      · rw [if_neg c2]; rw [if_neg c2] at q
        refine ⟨?_, .str _, H, I.tok _, ⟨_, rfl⟩, q⟩
        show (List.foldl (fun x1 x2 => x1 ++ x2) #[] (List.replicate k.toNat z.cps)).size ≤ sizeLine
        rw [rep_size]
        have e : (#[] : Array Nat).size = 0 := rfl
        rw [e, Nat.zero_add, Nat.mul_comm]
        exact h4

theorem OpR.weak {f : Value → Value → Sem Value} {r r' : R2} (h : OpR X f r) (k : ∀ x y H Q, r' x y H Q → r x y H Q) : OpR X f r' := fun pins s σ H x y v u Q I rx ry q => h pins s σ H x y v u Q I rx ry (k _ _ _ _ q)
/-- an operation on data -/
def Bin (X : Cx) (f : Value → Value → Sem Value) (g : F2) : Prop := ∃ r, OpR X f r ∧ Op2 X.K r g
theorem Bin.of {f : Value → Value → Sem Value} {r : R2} {g : F2} (h : OpR X f r) (k : Op2 X.K r g) : Bin X f g := ⟨r, h, k⟩

theorem bin_add : Bin X (binaryOp .Add) fAdd := .of (op_add.or (op_add_str.or (op_cat.or op_catA))) fun {Hs H x y v u R Q} e sy hx hy hf k => by
  cases x with
  | int i =>
    cases y with
    | int j => cases (show v = _ from hx); cases (show u = _ from hy); exact .inl ⟨i, j, rfl, rfl, k _ _ _ nr_int hf⟩
    | _ => exact hf.elim
  | str i =>
    cases y with
    | str j => cases (show v = _ from hx); cases (show u = _ from hy); exact .inr (.inl ⟨i, j, rfl, rfl, hf.1, k _ _ _ nr_str hf.2⟩)
    | _ => exact hf.elim
  | lst xs =>
    cases y with
    | lst ys =>
      obtain ⟨a, vs, rfl, h1, h2⟩ := hx
      obtain ⟨b, ws, rfl, h3, h4⟩ := hy
      exact .inr (.inr (.inl ⟨a, b, vs, ws, rfl, rfl, h1, h3, by rw [← h2.length, ← h4.length]; exact hf.1, fun p hp => k _ _ _ (.nl hp (h2.append h4)) hf.2⟩))
    | _ => exact hf.elim
  | tup xs =>
    cases y with
    | tup ys =>
      have hx0 : Rp X.K Hs (.tup xs) v := hx
      have hy0 : Rp X.K Hs (.tup ys) u := hy
      obtain ⟨a, vs, rfl, h1, h2⟩ := hx
      obtain ⟨b, ws, rfl, h3, h4⟩ := hy
      refine .inr (.inr (.inr ⟨a, b, vs, ws, rfl, rfl, same_t e h1, same_t e h3, by rw [← h2.length, ← h4.length]; exact hf.1, fun z => ?_, fun z z2 => ?_, fun _ _ p hp => k _ _ _ (.nt hp (h2.append h4)) hf.2⟩))
      · subst z
        have e1 : xs = [] := List.eq_nil_of_length_eq_zero (by rw [h2.length]; rfl)
        subst e1
        exact k _ (.d (.tup ([] ++ ys))) _ (.old hy0) hf.2
      · subst z2
        have e1 : ys = [] := List.eq_nil_of_length_eq_zero (by rw [h4.length]; rfl)
        subst e1
        refine k _ (.d (.tup (xs ++ []))) _ (.old ?_) hf.2
        rw [List.append_nil]; exact hx0
    | _ => exact hf.elim
  | _ => cases y <;> exact hf.elim
theorem bin_sub : Bin X (binaryOp .Sub) fSub := .of op_sub fun {Hs H x y v u R Q} e sy hx hy hf k => by
  cases x with
  | int i =>
    cases y with
    | int j => cases (show v = _ from hx); cases (show u = _ from hy); exact ⟨i, j, rfl, rfl, k _ _ _ nr_int hf⟩
    | _ => exact hf.elim
  | _ => cases y <;> exact hf.elim
theorem RpL.rep {Hs : Hp} {ds : List D} {vs : List V} (h : RpL K Hs ds vs) : ∀ n : Nat, RpL K Hs (List.replicate n ds).flatten (List.replicate n vs).flatten
  | 0 => rfl
  | n + 1 => by rw [List.replicate_succ, List.replicate_succ, List.flatten_cons, List.flatten_cons]; exact h.append (RpL.rep h n)
theorem bin_mul : Bin X (binaryOp .Mult) fMul := .of (op_mul.or (op_rep.or (op_mul_sk.or op_repT))) fun {Hs H x y v u R Q} e sy hx hy hf k => by
  cases x with
  | int i =>
    cases y with
    | int j => cases (show v = _ from hx); cases (show u = _ from hy); exact .inl ⟨i, j, rfl, rfl, hf.1, k _ _ _ nr_int hf.2⟩
    | _ => exact hf.elim
  | lst xs =>
    cases y with
    | int j =>
      obtain ⟨a, vs, rfl, h1, h2⟩ := hx
      cases (show u = _ from hy)
      exact .inr (.inl ⟨a, j, vs, rfl, rfl, h1, hf.1.1, hf.1.2.1, by rw [← h2.length]; exact hf.1.2.2, fun p hp => k _ _ _ (.nl hp (h2.rep _)) hf.2⟩)
    | _ => exact hf.elim
  | str z =>
    cases y with
    | int j => cases (show v = _ from hx); cases (show u = _ from hy); exact .inr (.inr (.inl ⟨z, j, rfl, rfl, hf.1, k _ _ _ nr_str hf.2⟩))
    | _ => exact hf.elim
  | tup xs =>
    cases y with
    | int j =>
      obtain ⟨a, vs, rfl, h1, h2⟩ := hx
      cases (show u = _ from hy)
      have hl := h2.length
      refine .inr (.inr (.inr ⟨a, j, vs, rfl, rfl, same_t e h1, fun z => ?_, hf.1.2.1, hf.1.2.2.1, by rw [← hl]; exact hf.1.2.2.2, fun p hp => k _ _ _ (.nt hp (h2.rep _)) hf.2⟩))
      subst z
      exact hf.1.1 (List.eq_nil_of_length_eq_zero (by rw [hl]; rfl))
    | _ => exact hf.elim
  | _ => cases y <;> exact hf.elim
theorem bin_div : Bin X (binaryOp .FloorDiv) fDiv := .of op_fdiv fun {Hs H x y v u R Q} e sy hx hy hf k => by
  cases x with
  | int i =>
    cases y with
    | int j => cases (show v = _ from hx); cases (show u = _ from hy); exact ⟨i, j, rfl, rfl, hf.1, k _ _ _ nr_int hf.2⟩
    | _ => exact hf.elim
  | _ => cases y <;> exact hf.elim
theorem bin_mod : Bin X (binaryOp .Mod) fMod := .of op_mod fun {Hs H x y v u R Q} e sy hx hy hf k => by
  cases x with
  | int i =>
    cases y with
    | int j => cases (show v = _ from hx); cases (show u = _ from hy); exact ⟨i, j, rfl, rfl, hf.1, k _ _ _ nr_int hf.2⟩
    | _ => exact hf.elim
  | _ => cases y <;> exact hf.elim
theorem bin_pow : Bin X (binaryOp .Pow) fPow := .of op_pow fun {Hs H x y v u R Q} e sy hx hy hf k => by
  cases x with
  | int i =>
    cases y with
    | int j => cases (show v = _ from hx); cases (show u = _ from hy); exact ⟨i, j, rfl, rfl, hf.1, k _ _ _ nr_int hf.2⟩
    | _ => exact hf.elim
  | _ => cases y <;> exact hf.elim
theorem bin_bor : Bin X (binaryOp .BitOr) fBor := .of op_or fun {Hs H x y v u R Q} e sy hx hy hf k => by
  cases x with
  | int i =>
    cases y with
    | int j => cases (show v = _ from hx); cases (show u = _ from hy); exact ⟨i, j, rfl, rfl, k _ _ _ nr_int hf⟩
    | _ => exact hf.elim
  | _ => cases y <;> exact hf.elim
theorem bin_band : Bin X (binaryOp .BitAnd) fBand := .of op_and fun {Hs H x y v u R Q} e sy hx hy hf k => by
  cases x with
  | int i =>
    cases y with
    | int j => cases (show v = _ from hx); cases (show u = _ from hy); exact ⟨i, j, rfl, rfl, k _ _ _ nr_int hf⟩
    | _ => exact hf.elim
  | _ => cases y <;> exact hf.elim
theorem bin_false {f : Value → Value → Sem Value} : Bin X f (fun _ _ _ => False) := .of (r := fun _ _ _ _ => False) (fun _ _ _ _ _ _ _ _ _ _ _ _ q => q.elim) fun _ _ _ _ hf _ => hf
theorem bin_all : ∀ op : Operator, Bin X (binaryOp op) (fBin op)
  | .Add => bin_add
  | .Sub => bin_sub
  | .Mult => bin_mul
  | .FloorDiv => bin_div
  | .Mod => bin_mod
  | .Pow => bin_pow
  | .BitOr => bin_bor
  | .BitAnd => bin_band
  | .MatMult => bin_false
  | .Div => bin_false
  | .LShift => bin_false
  | .RShift => bin_false
  | .BitXor => bin_false
end
end Pz

set_option maxRecDepth 100000
set_option maxHeartbeats 4000000
/-! Pz, part 4: data as the library reads it; comparisons, isinstance, repr, len .. -/
namespace Pz
open PySem L2

def keyPy : Key → PyData
  | .inl i => .int i
  | .inr x => .str x
mutual
def D.py : D → PyData
  | .non => .none
  | .bl b => .bool b
  | .int i => .int i
  | .str x => .str x
  | .lst xs => .list (D.pyL xs)
  | .tup xs => .tuple (D.pyL xs)
  | .dic ks xs => .dict ((ks.map keyPy).zip (D.pyL xs))
  | .dit _ _ => .none
  | .ins _ _ _ => .none
  | .cst _ => .none
def D.pyL : List D → List PyData
  | [] => []
  | d :: ds => d.py :: D.pyL ds
end
mutual
/-- data that the library reads: nothing opaque within, keys as many as values -/
def D.isD : D → Bool
  | .non => true
  | .bl _ => true
  | .int _ => true
  | .str _ => true
  | .lst xs => D.isDL xs
  | .tup xs => D.isDL xs
  | .dic _ xs => D.isDL xs
  | .dit _ _ => false
  | .ins _ _ _ => false
  | .cst _ => false
def D.isDL : List D → Bool
  | [] => true
  | d :: ds => d.isD && D.isDL ds
end
theorem D.pyL_map : ∀ xs : List D, D.pyL xs = xs.map D.py
  | [] => rfl
  | d :: ds => by simp only [D.pyL, List.map_cons, D.pyL_map ds]
theorem D.isDL_all : ∀ xs : List D, D.isDL xs = xs.all D.isD
  | [] => rfl
  | d :: ds => by simp only [D.isDL, List.all_cons, D.isDL_all ds]
theorem pairs_keys {P : Program} {w : World} {h : Heap} : ∀ {es : List DictEntry} {kvs : List (Key × Value)}, Pairs (mixKind P w) es kvs → ReadsAll h (es.map (·.key)) (kvs.map fun kv => keyPy kv.1) []
  | _, _, .nil => .nil
  | _, _, .cons (e := e) (kv := kv) h1 h2 h3 => by
    have e1 : (mixKind P w).is kv.1 e.key = keyIs kv.1 e.key := rfl
    rw [e1] at h1
    refine .cons (as := []) (bs := []) ?_ (pairs_keys h3)
    rcases keyIs_shape h1 with ⟨i, t, q1, q2⟩ | ⟨x, t, q1, q2⟩
    · show Reads h e.key (keyPy kv.1) []
      rw [q1, q2]; exact .int i t
    · show Reads h e.key (keyPy kv.1) []
      rw [q1, q2]; exact .str x t
theorem pairs_vals {P : Program} {w : World} : ∀ {es : List DictEntry} {kvs : List (Key × Value)}, Pairs (mixKind P w) es kvs → es.map (·.val) = kvs.map (·.2)
  | _, _, .nil => rfl
  | _, _, .cons h1 h2 h3 => by rw [List.map_cons, List.map_cons, h2, pairs_vals h3]
theorem kv_split {κ : Type} : ∀ {ks : List κ} {vs : List V} {ws : List (κ × Value)}, KV (ks.zip vs) ws → ks.length = vs.length → ws.map (·.1) = ks ∧ Vals vs (ws.map (·.2))
  | [], [], _, .nil, _ => ⟨rfl, .nil⟩
  | k :: ks, v :: vs, _, .cons r t, e => by
    obtain ⟨h1, h2⟩ := kv_split t (by simpa using e)
    exact ⟨by rw [List.map_cons, h1]; rw [← r.1], .cons r.2 h2⟩
  | [], _ :: _, _, _, e => by simp at e
  | _ :: _, [], _, _, e => by simp at e

section
variable {X : Cx} {pins : List (Addr × Obj)} {σ : St} {H : Hp} {s : Shared}
mutual
theorem Rp.reads (I : Inv X pins σ H s) (hy : Sys H) : ∀ (d : D) (v : V) (u : Value), d.isD = true → Rp X.K H d v → RelV v u → ∃ as, Reads s.heap u d.py as ∧ ∀ b ∈ as, b ≠ sysModules
  | .non, _, _, _, h, r => by cases h; cases r; exact ⟨_, Reads.none, by simp⟩
  | .bl b, _, _, _, h, r => by cases h; cases r; exact ⟨_, Reads.bool b, by simp⟩
  | .int i, _, _, _, h, r => by cases h; obtain ⟨t, rfl⟩ := r; exact ⟨_, Reads.int i t, by simp⟩
  | .str x, _, _, _, h, r => by cases h; obtain ⟨t, rfl⟩ := r; exact ⟨_, Reads.str x t, by simp⟩
  | .lst xs, _, _, hd, ⟨a, vs, e, h1, h2⟩, r => by
    subst e
    cases r
    obtain ⟨its, rv, ⟨o, n, ho, hc, _, hdt⟩, _⟩ := I.list (SqL.of h1)
    obtain ⟨as, hr, hn⟩ := RpL.reads I hy xs vs its (by simpa [D.isD] using hd) h2 rv
    refine ⟨_, by simp only [D.py]; exact Reads.list ho hc hdt hr, fun b hb => ?_⟩
    rcases List.mem_cons.mp hb with rfl | hb
    · intro z
      obtain ⟨o, φ, q⟩ := hy
      rw [z, q] at h1; cases h1
    · exact hn b hb
  | .tup xs, _, _, hd, ⟨a, vs, e, h1, h2⟩, r => by
    subst e
    cases r
    obtain ⟨its, rv, ⟨o, ho, hc, n, hdt⟩, _⟩ := I.tuple h1
    obtain ⟨as, hr, hn⟩ := RpL.reads I hy xs vs its (by simpa [D.isD] using hd) h2 rv
    exact ⟨_, by simp only [D.py]; exact Reads.tuple ho hc hdt hr, hn⟩
  | .dic ks xs, _, _, hd, ⟨a, vs, e, h1, hl, h2⟩, r => by
    subst e
    cases r
    obtain ⟨z, hs, ws, rel, o, es, ep, ho, hx, hdt, hk, hp, hnd⟩ := I.hok a _ h1
    obtain ⟨e1, e2⟩ := kv_split rel (hl.trans h2.length)
    obtain ⟨as, hr, hn⟩ := RpL.reads I hy xs vs _ (by simpa [D.isD] using hd) h2 e2
    have hpl : (D.pyL xs).length = ks.length := by rw [D.pyL_map, List.length_map]; exact hl.symm
    refine ⟨_, by
      simp only [D.py]
      refine Reads.dict (kvs := (ks.map keyPy).zip (D.pyL xs)) (as := []) (bs := as) ho hx.1 hdt ?_ ?_
      · have := pairs_keys (h := s.heap) hp
        rw [List.map_fst_zip (by rw [List.length_map, hpl]; exact Nat.le_refl _)]
        have q : ws.map (fun kv => keyPy kv.1) = ks.map keyPy := by rw [← e1, List.map_map]; rfl
        rw [q] at this
        exact this
      · rw [List.map_snd_zip (by rw [List.length_map, hpl]; exact Nat.le_refl _), pairs_vals hp]
        exact hr, fun b hb => ?_⟩
    simp only [List.append_nil, List.cons_append, List.nil_append] at hb
    rcases List.mem_cons.mp hb with rfl | hb
    · intro z; rw [z] at hs; simp at hs
    · exact hn b hb
  | .dit _ _, _, _, hd, _, _ => by cases hd
  | .ins _ _ _, _, _, hd, _, _ => by cases hd
  | .cst _, _, _, hd, _, _ => by cases hd
theorem RpL.reads (I : Inv X pins σ H s) (hy : Sys H) : ∀ (ds : List D) (vs : List V) (us : List Value), D.isDL ds = true → RpL X.K H ds vs → Vals vs us → ∃ as, ReadsAll s.heap us (D.pyL ds) as ∧ ∀ b ∈ as, b ≠ sysModules
  | [], _, _, _, h, r => by
    cases h
    cases r
    exact ⟨_, ReadsAll.nil, by simp⟩
  | d :: ds, _, _, hd, ⟨v, vs, e, h1, h2⟩, r => by
    subst e
    cases r with
    | cons r1 r2 =>
      simp only [D.isDL, Bool.and_eq_true] at hd
      obtain ⟨as, q1, n1⟩ := Rp.reads I hy d v _ hd.1 h1 r1
      obtain ⟨bs, q2, n2⟩ := RpL.reads I hy ds vs _ hd.2 h2 r2
      exact ⟨_, ReadsAll.cons q1 q2, fun b hb => (List.mem_append.mp hb).elim (n1 b) (n2 b)⟩
end
end
end Pz

set_option maxRecDepth 100000
set_option maxHeartbeats 4000000
/-! Pz, part 5: comparisons, built-in functions. -/
namespace Pz
open PySem L2

def D.flat (d : D) : Bool := d.isD && d.py.plain
def D.eq (x y : D) : Bool := PyData.eqv x.py y.py
def okEq (x y : D) : Bool := x.flat && y.flat && decide (min x.py.depth y.py.depth ≤ 60)
def fEq : F2 := fun x y R => okEq x y = true ∧ R (.d (.bl (x.eq y)))
def fNe : F2 := fun x y R => okEq x y = true ∧ R (.d (.bl (!x.eq y)))
def ltS (x y : Str) : Bool := decide (x.cps.toList < y.cps.toList)
def fLt : F2
  | .int i, .int j, R => R (.d (.bl (decide (i < j))))
  | .str x, .str y, R => R (.d (.bl (ltS x y)))
  | _, _, _ => False
def fLe : F2
  | .int i, .int j, R => R (.d (.bl (decide (i ≤ j))))
  | .str x, .str y, R => R (.d (.bl (!ltS y x)))
  | _, _, _ => False
def fGt : F2
  | .int i, .int j, R => R (.d (.bl (decide (j < i))))
  | .str x, .str y, R => R (.d (.bl (ltS y x)))
  | _, _, _ => False
def fGe : F2
  | .int i, .int j, R => R (.d (.bl (decide (j ≤ i))))
  | .str x, .str y, R => R (.d (.bl (!ltS x y)))
  | _, _, _ => False
def strIn (x z : Str) : Bool := match x.cps.toList with
  | [c] => decide (c ∈ z.cps.toList)
  | _ => !(Builtin.Str.occurrences z x 0 z.length 1).isEmpty
def inD (x : D) (xs : List D) : Bool := xs.any fun y => y.eq x
def okIn (x : D) (xs : List D) : Bool := x.flat && D.isDL xs && PyData.plainAll (D.pyL xs) && decide (min (PyData.depthAll (D.pyL xs)) x.py.depth ≤ 60)
def hasK (ks : List Key) (k : Key) : Bool := ks.any fun j => decide (j = k)
def keyOf : D → Option Key
  | .int i => some (.inl i)
  | .str x => some (.inr x)
  | _ => none
def fIn (neg : Bool) : F2
  | x, .lst xs, R => okIn x xs = true ∧ R (.d (.bl (neg ^^ inD x xs)))
  | x, .tup xs, R => okIn x xs = true ∧ R (.d (.bl (neg ^^ inD x xs)))
  | .str x, .str z, R => R (.d (.bl (neg ^^ strIn x z)))
  | x, .dic ks _, R => ∃ k, keyOf x = some k ∧ R (.d (.bl (neg ^^ hasK ks k)))
  | _, _, _ => False
def D.isNon : D → Bool
  | .non => true
  | .cst w => decide (w = .non)
  | _ => false
def fIs (neg : Bool) : F2
  | x, .non, R => R (.d (.bl (neg ^^ x.isNon)))
  | .bl a, .bl b, R => R (.d (.bl (neg ^^ decide (a = b))))
  | _, _, _ => False
def fCmp : CmpOp → F2
  | .Eq => fEq
  | .NotEq => fNe
  | .Lt => fLt
  | .LtE => fLe
  | .Gt => fGt
  | .GtE => fGe
  | .Is => fIs false
  | .IsNot => fIs true
  | .In => fIn false
  | .NotIn => fIn true

section
variable {X : Cx}
/-- data in the heap, as the layer's rules read it -/
def rEqZ (K : PySem.W.Frag) (neg : Bool) : R2 := fun v u H Q => ∃ x y, Sys H ∧ Rp K H x v ∧ Rp K H y u ∧ okEq x y = true ∧ Q (.bl (neg ^^ x.eq y)) H
theorem op_eqZ (hu : X.A.units + 64 < cLine) : OpR X (compareOp .Eq) (rEqZ X.K false) := by
  intro pins s σ H v u v' u' Q I rv ru h
  obtain ⟨x, y, sy, hx, hy, ok, q⟩ := h
  simp only [okEq, D.flat, Bool.and_eq_true, decide_eq_true_eq] at ok
  obtain ⟨as, r1, _⟩ := Rp.reads I sy x v v' ok.1.1.1 hx rv
  obtain ⟨bs, r2, _⟩ := Rp.reads I sy y u u' ok.1.2.1 hy ru
  exact SeqAt.eq_plain r1 r2 ok.1.1.2 ok.1.2.2 (by omega) ⟨.bl _, H, I, by rw [Bool.false_xor]; rfl, q⟩
theorem op_neZ (hu : X.A.units + 64 < cLine) : OpR X (compareOp .NotEq) (rEqZ X.K true) := by
  intro pins s σ H v u v' u' Q I rv ru h
  obtain ⟨x, y, sy, hx, hy, ok, q⟩ := h
  simp only [okEq, D.flat, Bool.and_eq_true, decide_eq_true_eq] at ok
  obtain ⟨as, r1, _⟩ := Rp.reads I sy x v v' ok.1.1.1 hx rv
  obtain ⟨bs, r2, _⟩ := Rp.reads I sy y u u' ok.1.2.1 hy ru
  exact SeqAt.ne_plain r1 r2 ok.1.1.2 ok.1.2.2 (by omega) ⟨.bl _, H, I, by rw [Bool.true_xor]; rfl, q⟩
theorem bin_eq (hu : X.A.units + 64 < cLine) : Bin X (compareOp .Eq) fEq := .of (op_eqZ hu) fun {Hs H x y v u R Q} e sy hx hy hf k =>
  ⟨x, y, sy, hx.rp e, hy.rp e, hf.1, by rw [Bool.false_xor]; exact k _ _ _ nr_bl hf.2⟩
theorem bin_ne (hu : X.A.units + 64 < cLine) : Bin X (compareOp .NotEq) fNe := .of (op_neZ hu) fun {Hs H x y v u R Q} e sy hx hy hf k =>
  ⟨x, y, sy, hx.rp e, hy.rp e, hf.1, by rw [Bool.true_xor]; exact k _ _ _ nr_bl hf.2⟩
theorem bin_lt : Bin X (compareOp .Lt) fLt := .of (op_lt.or op_lt_str) fun {Hs H x y v u R Q} e sy hx hy hf k => by
  cases x with
  | int i =>
    cases y with
    | int j => cases (show v = _ from hx); cases (show u = _ from hy); exact .inl ⟨i, j, rfl, rfl, k _ _ _ nr_bl hf⟩
    | _ => exact hf.elim
  | str i =>
    cases y with
    | str j => cases (show v = _ from hx); cases (show u = _ from hy); exact .inr ⟨i, j, rfl, rfl, k _ _ _ nr_bl hf⟩
    | _ => exact hf.elim
  | _ => cases y <;> exact hf.elim
theorem bin_le : Bin X (compareOp .LtE) fLe := .of (op_le.or op_le_str) fun {Hs H x y v u R Q} e sy hx hy hf k => by
  cases x with
  | int i =>
    cases y with
    | int j => cases (show v = _ from hx); cases (show u = _ from hy); exact .inl ⟨i, j, rfl, rfl, k _ _ _ nr_bl hf⟩
    | _ => exact hf.elim
  | str i =>
    cases y with
    | str j => cases (show v = _ from hx); cases (show u = _ from hy); exact .inr ⟨i, j, rfl, rfl, k _ _ _ nr_bl hf⟩
    | _ => exact hf.elim
  | _ => cases y <;> exact hf.elim
theorem bin_gt : Bin X (compareOp .Gt) fGt := .of (op_gt.or op_gt_str) fun {Hs H x y v u R Q} e sy hx hy hf k => by
  cases x with
  | int i =>
    cases y with
    | int j => cases (show v = _ from hx); cases (show u = _ from hy); exact .inl ⟨i, j, rfl, rfl, k _ _ _ nr_bl hf⟩
    | _ => exact hf.elim
  | str i =>
    cases y with
    | str j => cases (show v = _ from hx); cases (show u = _ from hy); exact .inr ⟨i, j, rfl, rfl, k _ _ _ nr_bl hf⟩
    | _ => exact hf.elim
  | _ => cases y <;> exact hf.elim
theorem bin_ge : Bin X (compareOp .GtE) fGe := .of (op_ge.or op_ge_str) fun {Hs H x y v u R Q} e sy hx hy hf k => by
  cases x with
  | int i =>
    cases y with
    | int j => cases (show v = _ from hx); cases (show u = _ from hy); exact .inl ⟨i, j, rfl, rfl, k _ _ _ nr_bl hf⟩
    | _ => exact hf.elim
  | str i =>
    cases y with
    | str j => cases (show v = _ from hx); cases (show u = _ from hy); exact .inr ⟨i, j, rfl, rfl, k _ _ _ nr_bl hf⟩
    | _ => exact hf.elim
  | _ => cases y <;> exact hf.elim
/-- in -/
def rInZ (K : PySem.W.Frag) (neg : Bool) : R2 := fun v u H Q => ∃ x xs, Sys H ∧ Rp K H x v ∧ (Rp K H (.lst xs) u ∨ Rp K H (.tup xs) u) ∧ okIn x xs = true ∧ Q (.bl (neg ^^ inD x xs)) H
theorem any_py (x : D) : ∀ xs : List D, ((D.pyL xs).any fun y => PyData.eqv y x.py) = inD x xs
  | [] => rfl
  | y :: ys => by
    simp only [D.pyL, List.any_cons, any_py x ys]
    rfl
theorem okIn_of {x : D} {xs : List D} (ok : okIn x xs = true) : x.isD = true ∧ x.py.plain = true ∧ D.isDL xs = true ∧ PyData.plainAll (D.pyL xs) = true ∧ min (PyData.depthAll (D.pyL xs)) x.py.depth ≤ 60 := by
  simp only [okIn, D.flat, Bool.and_eq_true, decide_eq_true_eq] at ok
  exact ⟨ok.1.1.1.1, ok.1.1.1.2, ok.1.1.2, ok.1.2, ok.2⟩
theorem op_inZ (hu : X.A.units + 64 < cLine) : OpR X (compareOp .In) (rInZ X.K false) := by
  intro pins s σ H v u v' u' Q I rv ru h
  obtain ⟨x, xs, sy, hx, hy, ok, q⟩ := h
  obtain ⟨o1, o2, o3, o4, o5⟩ := okIn_of ok
  obtain ⟨as, r1, _⟩ := Rp.reads I sy x v v' o1 hx rv
  have fin : ∀ b, b = ((D.pyL xs).any fun y => PyData.eqv y x.py) → EP X pins σ Q (.bool b) s := fun b e => ⟨.bl _, H, I, by rw [e, any_py, Bool.false_xor]; rfl, q⟩
  rcases hy with hy | hy
  · obtain ⟨bs, r2, _⟩ := Rp.reads I sy (.lst xs) u u' (by simpa [D.isD] using o3) hy ru
    simp only [D.py] at r2
    exact SeqAt.in_list_data r2 r1 o4 o2 (by omega) (fin _ rfl)
  · obtain ⟨bs, r2, _⟩ := Rp.reads I sy (.tup xs) u u' (by simpa [D.isD] using o3) hy ru
    simp only [D.py] at r2
    exact SeqAt.in_tuple_data r2 r1 o4 o2 (by omega) (fin _ rfl)
theorem op_ninZ (hu : X.A.units + 64 < cLine) : OpR X (compareOp .NotIn) (rInZ X.K true) := by
  intro pins s σ H v u v' u' Q I rv ru h
  obtain ⟨x, xs, sy, hx, hy, ok, q⟩ := h
  obtain ⟨o1, o2, o3, o4, o5⟩ := okIn_of ok
  obtain ⟨as, r1, _⟩ := Rp.reads I sy x v v' o1 hx rv
  have fin : ∀ b, b = (!(D.pyL xs).any fun y => PyData.eqv y x.py) → EP X pins σ Q (.bool b) s := fun b e => ⟨.bl _, H, I, by rw [e, any_py, Bool.true_xor]; rfl, q⟩
  rcases hy with hy | hy
  · obtain ⟨bs, r2, _⟩ := Rp.reads I sy (.lst xs) u u' (by simpa [D.isD] using o3) hy ru
    simp only [D.py] at r2
    exact SeqAt.notIn_list_data r2 r1 o4 o2 (by omega) (fin _ rfl)
  · obtain ⟨bs, r2, _⟩ := Rp.reads I sy (.tup xs) u u' (by simpa [D.isD] using o3) hy ru
    simp only [D.py] at r2
    exact SeqAt.notIn_tuple_data r2 r1 o4 o2 (by omega) (fin _ rfl)
/-- a text in a text -/
theorem op_inS' (neg : Bool) : OpR X (compareOp (if neg then .NotIn else .In)) (fun x y H Q => ∃ i j, x = .str i ∧ y = .str j ∧ Q (.bl (neg ^^ strIn i j)) H) := by
  intro pins s σ H x y v u Q I rx ry h
  obtain ⟨i, j, rfl, rfl, q⟩ := h
  have hs : (∃ c, i = ⟨#[c]⟩) ∨ strIn i j = !(Builtin.Str.occurrences j i 0 j.length 1).isEmpty := by
    unfold strIn
    split
    · rename_i c e
      left
      refine ⟨c, ?_⟩
      cases i with
      | mk a => rw [← Array.toArray_toList (xs := a), show a.toList = [c] from e]
    · right; rfl
  cases neg with
  | false =>
    rw [Bool.false_xor] at q
    rcases hs with ⟨c, rfl⟩ | hs
    · exact op_in_sign pins s σ H _ _ v u Q I rx ry ⟨c, j, rfl, rfl, q⟩
    · exact op_in_str pins s σ H _ _ v u Q I rx ry ⟨i, j, rfl, rfl, by rw [← hs]; exact q⟩
  | true =>
    rw [Bool.true_xor] at q
    rcases hs with ⟨c, rfl⟩ | hs
    · exact op_notIn_sign pins s σ H _ _ v u Q I rx ry ⟨c, j, rfl, rfl, q⟩
    · exact op_notin_str pins s σ H _ _ v u Q I rx ry ⟨i, j, rfl, rfl, by rw [← hs]; exact q⟩
theorem find_zip {k : Key} : ∀ {ks : List Key} {vs : List V}, ks.length = vs.length → (valV (ks.zip vs) k).isSome = hasK ks k
  | [], [], _ => by simp [valV, hasK]
  | j :: ks, v :: vs, e => by
    have ih := find_zip (k := k) (ks := ks) (vs := vs) (by simpa using e)
    rw [List.zip_cons_cons]
    by_cases z : j = k
    · rw [valV_pos (p := (j, v)) z]; simp [hasK, z]
    · rw [valV_neg (p := (j, v)) z, ih]; simp [hasK, z]
  | [], _ :: _, e => by simp at e
  | _ :: _, [], e => by simp at e
theorem keyOf_rp {K : PySem.W.Frag} {Hs H : Hp} {x : D} {v : V} {k : Key} (h : keyOf x = some k) (hx : Rt K Hs H x v) : v = kV k := by
  cases x with
  | int i => cases h; exact hx
  | str i => cases h; exact hx
  | _ => cases h
theorem op_inK (neg : Bool) (hu : X.A.units + 1 < cLine) : OpR X (compareOp (if neg then .NotIn else .In)) (fun x y H Q => ∃ a k kvs, x = kV k ∧ y = .ref a ∧ H a = some (.dK kvs) ∧ Q (.bl (neg ^^ (valV kvs k).isSome)) H) := by
  intro pins s σ H x y v u Q I rx ry h
  obtain ⟨a, k, kvs, rfl, rfl, ha, q⟩ := h
  cases ry
  cases neg with
  | false => exact d_in hu I (DGet.k (k := k) ha) rx fun s' I' => ⟨.bl _, H, I', by rw [Bool.false_xor]; rfl, q⟩
  | true => exact d_notIn hu I (DGet.k (k := k) ha) rx fun s' I' => ⟨.bl _, H, I', by rw [Bool.true_xor]; rfl, q⟩
theorem bin_in (hu : X.A.units + 64 < cLine) : ∀ neg, Bin X (compareOp (if neg then .NotIn else .In)) (fIn neg) := fun neg => by
  have o1 : OpR X (compareOp (if neg then .NotIn else .In)) (rInZ X.K neg) := by
    cases neg with
    | false => exact op_inZ hu
    | true => exact op_ninZ hu
  refine .of (o1.or ((op_inS' neg).or (op_inK neg (by omega)))) fun {Hs H x y v u R Q} e sy hx hy hf k => ?_
  have go : ∀ {xs : List D}, y = .lst xs ∨ y = .tup xs → okIn x xs = true ∧ R (.d (.bl (neg ^^ inD x xs))) → rInZ X.K neg v u H Q := fun {xs} hz hf => by
    refine ⟨x, xs, sy, hx.rp e, ?_, hf.1, k _ _ _ nr_bl hf.2⟩
    rcases hz with rfl | rfl
    · exact .inl (hy.rp e)
    · exact .inr (hy.rp e)
  cases y with
  | lst xs => exact .inl (go (.inl rfl) (by cases x <;> exact hf))
  | tup xs => exact .inl (go (.inr rfl) (by cases x <;> exact hf))
  | str z =>
    cases x with
    | str i => cases (show v = _ from hx); cases (show u = _ from hy); exact .inr (.inl ⟨i, z, rfl, rfl, k _ _ _ nr_bl hf⟩)
    | _ => exact hf.elim
  | dic ks ys =>
    have hf' : ∃ k, keyOf x = some k ∧ R (.d (.bl (neg ^^ hasK ks k))) := by cases x <;> exact hf
    obtain ⟨kk, h1, h2⟩ := hf'
    obtain ⟨a, vs, rfl, h3, h4, h5⟩ := hy
    refine .inr (.inr ⟨a, kk, _, keyOf_rp h1 hx, rfl, h3, ?_⟩)
    rw [find_zip (h4.trans h5.length)]
    exact k _ _ _ nr_bl h2
  | _ => cases x <;> exact hf.elim
theorem bin_is : ∀ neg, Bin X (compareOp (if neg then .IsNot else .Is)) (fIs neg) := fun neg => by
  have o1 : OpR X (compareOp (if neg then .IsNot else .Is)) (fun x y H Q => y = .non ∧ Q (.bl (neg ^^ decide (x = .non))) H) := by
    cases neg with
    | false => exact Pz.OpR.weak op_isN fun x y H Q q => by simpa using q
    | true => exact Pz.OpR.weak op_notN fun x y H Q q => by simpa using q
  have o2 : OpR X (compareOp (if neg then .IsNot else .Is)) (fun x y H Q => ∃ a b : Bool, x = .bl a ∧ y = .bl b ∧ Q (.bl (neg ^^ decide (a = b))) H) := by
    cases neg with
    | false => exact Pz.OpR.weak op_isBl fun x y H Q ⟨a, b, h1, h2, q⟩ => ⟨a, b, h1, h2, by simpa using q⟩
    | true => exact Pz.OpR.weak op_notBl fun x y H Q ⟨a, b, h1, h2, q⟩ => ⟨a, b, h1, h2, by simpa using q⟩
  refine .of (o1.or o2) fun {Hs H x y v u R Q} e sy hx hy hf k => ?_
  cases y with
  | non =>
    cases (show u = _ from hy)
    refine .inl ⟨rfl, ?_⟩
    have e2 : decide (v = V.non) = x.isNon := by
      cases x with
      | non => cases (show v = _ from hx); rfl
      | bl b => cases (show v = _ from hx); rfl
      | int b => cases (show v = _ from hx); rfl
      | str b => cases (show v = _ from hx); rfl
      | lst _ => obtain ⟨a, _, rfl, _⟩ := hx; rfl
      | tup _ => obtain ⟨a, _, rfl, _⟩ := hx; rfl
      | dic _ _ => obtain ⟨a, _, rfl, _⟩ := hx; rfl
      | dit _ _ => obtain ⟨a, _, rfl, _⟩ := hx; rfl
      | ins _ _ _ => obtain ⟨a, _, _, rfl, _⟩ := hx; rfl
      | cst w => cases (show v = _ from hx); rfl
    rw [e2]
    refine k _ _ _ nr_bl ?_
    cases x <;> exact hf
  | bl b =>
    cases x with
    | bl a => cases (show v = _ from hx); cases (show u = _ from hy); exact .inr ⟨a, b, rfl, rfl, k _ _ _ nr_bl hf⟩
    | _ => exact hf.elim
  | _ => cases x <;> exact hf.elim
end
end Pz

set_option maxRecDepth 100000
set_option maxHeartbeats 4000000
/-! Pz, part 6: built-in functions by values. -/
namespace Pz
open PySem L2

/-- a built-in function or type, called -/
def Bfn (X : Cx) (f : Value) (g : FN) : Prop := ∃ r, CallR X f r ∧ OpN X.K r g
def okShow (d : D) : Bool := d.isD && d.py.showable && decide (d.py.depth ≤ 60)
def gRepr : FN
  | [d], R => okShow d = true ∧ d.py.shown.length ≤ sizeLine ∧ R (.d (.str d.py.shown))
  | _, _ => False
def gLen : FN
  | [.str x], R => x.length ≤ sizeLine ∧ R (.d (.int x.length))
  | [.lst xs], R => R (.d (.int xs.length))
  | [.tup xs], R => R (.d (.int xs.length))
  | [.dic ks _], R => R (.d (.int ks.length))
  | _, _ => False
inductive Ty where
  | int | bool | str | tuple | list | dict
  deriving DecidableEq
def Ty.nm : Ty → String
  | .int => "int" | .bool => "bool" | .str => "str" | .tuple => "tuple" | .list => "list" | .dict => "dict"
def D.isTy : Ty → D → Bool
  | .int, .int _ => true
  | .int, .bl _ => true
  | .bool, .bl _ => true
  | .str, .str _ => true
  | .tuple, .tup _ => true
  | .list, .lst _ => true
  | .dict, .dic _ _ => true
  | _, _ => false
def gIsi (t : Ty) : FN
  | [x, _], R => x.isD = true ∧ R (.d (.bl (x.isTy t)))
  | _, _ => False
def gTuple : FN
  | [.lst xs], R => R (.d (.tup xs))
  | [.tup xs], R => R (.d (.tup xs))
  | _, _ => False
def gList : FN
  | [.lst xs], R => R (.l xs)
  | [.tup xs], R => R (.l xs)
  | _, _ => False
def okSort (xs : List D) : Prop := PySem.W.AllAlike (xs.map D.py) ∧ PySem.W.Sortable (xs.map D.py) ∧ (∀ d ∈ xs, d.isD = true ∧ d.py.depth ≤ 60) ∧ xs.length ≤ sizeLine
def sortD (xs : List D) : List D := xs.mergeSort (PySem.W.dataLe false D.py)
def gSorted : FN
  | [.lst xs], R => okSort xs ∧ R (.l (sortD xs))
  | _, _ => False
def gSum : FN
  | [.lst xs], R => ∃ ns : List Int, xs = ns.map D.int ∧ R (.d (.int ns.sum))
  | _, _ => False
def gMax : FN
  | [.int i, .int j], R => R (.d (.int (if j > i then j else i)))
  | _, _ => False
def gMin : FN
  | [.int i, .int j], R => R (.d (.int (if j < i then j else i)))
  | _, _ => False
def gAll : FN
  | [.lst xs], R => ∃ bs : List Bool, xs = bs.map D.bl ∧ R (.d (.bl (bs.all id)))
  | _, _ => False
def gAny : FN
  | [.lst xs], R => ∃ bs : List Bool, xs = bs.map D.bl ∧ R (.d (.bl (bs.any id)))
  | _, _ => False
def gInt : FN
  | [.int i], R => R (.d (.int i))
  | [.bl b], R => R (.d (.int (if b then 1 else 0)))
  | _, _ => False
def gStr : FN
  | [.int i], R => i.natAbs.log2 < 1920 ∧ R (.d (.str (toString i)))
  | _, _ => False

section
variable {X : Cx}
theorem Bfn.of {f : Value} {r : List V → Hp → VK → Prop} {g : FN} (h : CallR X f r) (k : OpN X.K r g) : Bfn X f g := ⟨r, h, k⟩
theorem RtL.one {K : PySem.W.Frag} {Hs H : Hp} {d : D} {vs : List V} (h : RtL K Hs H [d] vs) : ∃ v, vs = [v] ∧ Rt K Hs H d v := by
  obtain ⟨v, r, e, h1, h2⟩ := h
  cases (show r = [] from h2)
  exact ⟨v, e, h1⟩
theorem RtL.two {K : PySem.W.Frag} {Hs H : Hp} {d e : D} {vs : List V} (h : RtL K Hs H [d, e] vs) : ∃ v u, vs = [v, u] ∧ Rt K Hs H d v ∧ Rt K Hs H e u := by
  obtain ⟨v, r, q, h1, h2⟩ := h
  obtain ⟨u, rfl, h3⟩ := RtL.one h2
  exact ⟨v, u, q, h1, h3⟩
/-- repr -/
theorem call_reprZ (hu : X.A.units + 64 < cLine) (hg : X.A.guards = some []) : CallR X (.builtin "repr") (fun vs H Q => ∃ v d, vs = [v] ∧ Sys H ∧ Rp X.K H d v ∧ okShow d = true ∧ d.py.shown.length ≤ sizeLine ∧ Q (.str d.py.shown) H) := by
  intro pins s σ H vs us Q I r h
  obtain ⟨v, d, rfl, sy, hd, ok, hz, q⟩ := h
  obtain ⟨u, rfl, ru⟩ := vals1 r
  simp only [okShow, Bool.and_eq_true, decide_eq_true_eq] at ok
  obtain ⟨as, hr, hn⟩ := Rp.reads I sy d v u ok.1.1 hd ru
  have fin : ∀ (h' : Heap) (t : Tok) (tk : Nat), (∀ b o, s.heap.get? b = some o → h'.get? b = some o) → EP X pins σ Q (.str d.py.shown t) { s with heap := h', toks := tk } := fun h' t tk hk => ⟨.str _, H, I.kept hk, ⟨_, rfl⟩, q⟩
  obtain ⟨⟨_, ok2⟩, ok3⟩ := ok
  generalize d.py = pd at hr ok2 ok3 hz q fin
  cases hr with
  | none => exact PySem.P.repr_of_none (fin s.heap _ _ fun _ _ e => e)
  | bool b => exact PySem.P.repr_of_bool (fin s.heap _ _ fun _ _ e => e)
  | int i t => exact PySem.P.repr_of_int (by simpa [PyData.showable] using ok2) (fin s.heap _ _ fun _ _ e => e)
  | str x t => exact PySem.P.repr_of_str (fin s.heap _ _ fun _ _ e => e) (by simpa only [PyData.shown] using hz)
  | list h1 h2 h3 h4 => exact repr_of_reads' (.list h1 h2 h3 h4) ok2 (fun _ hm => hn _ hm rfl) hg (by omega) (fun _ _ e => e) (fun h' u tk hk => fin h' u tk hk) hz
  | tuple h1 h2 h3 h4 => exact repr_of_reads' (.tuple h1 h2 h3 h4) ok2 (fun _ hm => hn _ hm rfl) hg (by omega) (fun _ _ e => e) (fun h' u tk hk => fin h' u tk hk) hz
  | dict h1 h2 h3 h4 h5 => exact repr_of_reads' (.dict h1 h2 h3 h4 h5) ok2 (fun _ hm => hn _ hm rfl) hg (by omega) (fun _ _ e => e) (fun h' u tk hk => fin h' u tk hk) hz

theorem b_repr (hu : X.A.units + 64 < cLine) (hg : X.A.guards = some []) : Bfn X (.builtin "repr") gRepr := .of (call_reprZ hu hg) fun {Hs H ds vs R Q} e sy hx hf k => by
  match ds, hf with
  | [d], hf =>
    obtain ⟨v, rfl, h⟩ := hx.one
    exact ⟨v, d, rfl, sy, h.rp e, hf.1, hf.2.1, k _ _ _ nr_str hf.2.2⟩
theorem call_lenD' : CallR X (.builtin "len") (fun vs H Q => ∃ a kvs, vs = [.ref a] ∧ H a = some (.dK kvs) ∧ Q (.int kvs.length) H) := by
  intro pins s σ H vs us Q I r h
  obtain ⟨a, kvs, rfl, ha, q⟩ := h
  obtain ⟨u, rfl, ru⟩ := vals1 r
  cases ru
  exact d_len I (.inl ha) fun t s' I' => ⟨.int _, H, I', ⟨_, rfl⟩, q⟩
theorem b_len : Bfn X (.builtin "len") gLen := .of (call_len_str.or (call_len_seq.or call_lenD')) fun {Hs H ds vs R Q} e sy hx hf k => by
  match ds, hf with
  | [], hf => exact hf.elim
  | a :: _ :: _, hf => cases a <;> exact hf.elim
  | [d], hf =>
    obtain ⟨v, rfl, h⟩ := hx.one
    cases d with
    | str x => cases (show v = _ from h); exact .inl ⟨x, rfl, hf.1, k _ _ _ nr_int hf.2⟩
    | lst xs =>
      obtain ⟨a, ws, rfl, h1, h2⟩ := h
      exact .inr (.inl ⟨a, ws, rfl, .inl (SqL.of h1), by rw [← h2.length]; exact k _ _ _ nr_int hf⟩)
    | tup xs =>
      obtain ⟨a, ws, rfl, h1, h2⟩ := h
      exact .inr (.inl ⟨a, ws, rfl, .inr (same_t e h1), by rw [← h2.length]; exact k _ _ _ nr_int hf⟩)
    | dic ks xs =>
      obtain ⟨a, ws, rfl, h1, h3, h2⟩ := h
      refine .inr (.inr ⟨a, _, rfl, h1, ?_⟩)
      rw [List.length_zip, ← h2.length, ← h3, Nat.min_self]
      exact k _ _ _ nr_int hf
    | _ => exact hf.elim
/-- isinstance(x, T) -/
theorem call_isiZ (t : Ty) : CallR X (.builtin "isinstance") (fun vs H Q => ∃ v d, vs = [v, .ty t.nm] ∧ Sys H ∧ Rp X.K H d v ∧ d.isD = true ∧ Q (.bl (d.isTy t)) H) := by
  intro pins s σ H vs us Q I r h
  obtain ⟨v, d, rfl, sy, hd, ok, q⟩ := h
  obtain ⟨u, w', rfl, ru, rw'⟩ := vals2 r
  cases (show w' = Value.type t.nm from rw')
  obtain ⟨as, hr, hn⟩ := Rp.reads I sy d v u ok hd ru
  have fin : ∀ (b : Bool) (tk : Nat), b = d.isTy t → EP X pins σ Q (.bool b) { s with toks := tk } := fun b tk eb => ⟨.bl _, H, I.tok _, by rw [eb]; rfl, q⟩
  cases t with
  | int => exact PySem.W.isinstance_int_data hr fun tk _ => fin _ tk (by cases d <;> first | rfl | (simp only [D.py]; rfl))
  | bool => exact PySem.W.isinstance_bool_data hr fun tk _ => fin _ tk (by cases d <;> first | rfl | (simp only [D.py]; rfl))
  | str => exact PySem.W.isinstance_str_data hr fun tk _ => fin _ tk (by cases d <;> first | rfl | (simp only [D.py]; rfl))
  | tuple => exact PySem.W.isinstance_tuple_data hr fun tk _ => fin _ tk (by cases d <;> first | rfl | (simp only [D.py]; rfl))
  | list => exact PySem.W.isinstance_list_data hr fun tk _ => fin _ tk (by cases d <;> first | rfl | (simp only [D.py]; rfl))
  | dict => exact PySem.W.isinstance_dict_data hr fun tk _ => fin _ tk (by cases d <;> first | rfl | (simp only [D.py]; rfl))
theorem b_tuple : Bfn X (.type "tuple") gTuple := .of call_tuple_of fun {Hs H ds vs R Q} e sy hx hf k => by
  match ds, hf with
  | [], hf => exact hf.elim
  | a :: _ :: _, hf => cases a <;> exact hf.elim
  | [d], hf =>
    obtain ⟨v, rfl, h⟩ := hx.one
    cases d with
    | lst xs =>
      obtain ⟨a, ws, rfl, h1, h2⟩ := h
      exact ⟨a, ws, rfl, .inl ⟨SqL.of h1, fun p hp => k _ _ _ (.nt hp h2) hf⟩⟩
    | tup xs =>
      have h0 : Rp X.K Hs (.tup xs) v := h
      obtain ⟨a, ws, rfl, h1, h2⟩ := h
      exact ⟨a, ws, rfl, .inr ⟨same_t e h1, k _ _ _ (.old h0) hf⟩⟩
    | _ => exact hf.elim
theorem b_list : Bfn X (.type "list") gList := .of call_list_of fun {Hs H ds vs R Q} e sy hx hf k => by
  match ds, hf with
  | [], hf => exact hf.elim
  | a :: _ :: _, hf => cases a <;> exact hf.elim
  | [d], hf =>
    obtain ⟨v, rfl, h⟩ := hx.one
    cases d with
    | lst xs =>
      obtain ⟨a, ws, rfl, h1, h2⟩ := h
      exact ⟨a, ws, rfl, .inl (SqL.of h1), fun p hp => k _ _ _ (.nl hp h2) hf⟩
    | tup xs =>
      obtain ⟨a, ws, rfl, h1, h2⟩ := h
      exact ⟨a, ws, rfl, .inr (same_t e h1), fun p hp => k _ _ _ (.nl hp h2) hf⟩
    | _ => exact hf.elim
theorem b_sum (hc : X.calm = true) : Bfn X (.builtin "sum") gSum := .of (cr_sum hc) fun {Hs H ds vs R Q} e sy hx hf k => by
  match ds, hf with
  | [.lst xs], ⟨ns, e1, hf⟩ =>
    obtain ⟨v, rfl, a, ws, rfl, h1, h2⟩ := hx.one
    subst e1
    cases RpL.of_ints h2
    exact ⟨a, ns, rfl, SqL.of h1, k _ _ _ nr_int hf⟩
theorem b_all (hc : X.calm = true) : Bfn X (.builtin "all") gAll := .of (cr_all hc) fun {Hs H ds vs R Q} e sy hx hf k => by
  match ds, hf with
  | [.lst xs], ⟨ns, e1, hf⟩ =>
    obtain ⟨v, rfl, a, ws, rfl, h1, h2⟩ := hx.one
    subst e1
    cases RpL.of_bls h2
    exact ⟨a, ns, rfl, SqL.of h1, k _ _ _ nr_bl hf⟩
theorem b_any (hc : X.calm = true) : Bfn X (.builtin "any") gAny := .of (cr_any hc) fun {Hs H ds vs R Q} e sy hx hf k => by
  match ds, hf with
  | [.lst xs], ⟨ns, e1, hf⟩ =>
    obtain ⟨v, rfl, a, ws, rfl, h1, h2⟩ := hx.one
    subst e1
    cases RpL.of_bls h2
    exact ⟨a, ns, rfl, SqL.of h1, k _ _ _ nr_bl hf⟩
theorem b_max (hc : X.calm = true) : Bfn X (.builtin "max") gMax := .of (call_max2 hc) fun {Hs H ds vs R Q} e sy hx hf k => by
  match ds, hf with
  | [.int i, .int j], hf =>
    obtain ⟨v, u, rfl, h1, h2⟩ := hx.two
    cases (show v = _ from h1); cases (show u = _ from h2)
    exact ⟨i, j, rfl, k _ _ _ nr_int hf⟩
theorem b_min (hc : X.calm = true) : Bfn X (.builtin "min") gMin := .of (call_min2 hc) fun {Hs H ds vs R Q} e sy hx hf k => by
  match ds, hf with
  | [.int i, .int j], hf =>
    obtain ⟨v, u, rfl, h1, h2⟩ := hx.two
    cases (show v = _ from h1); cases (show u = _ from h2)
    exact ⟨i, j, rfl, k _ _ _ nr_int hf⟩
theorem b_int : Bfn X (.type "int") gInt := .of call_int1 fun {Hs H ds vs R Q} e sy hx hf k => by
  match ds, hf with
  | [.int i], hf =>
    obtain ⟨v, rfl, h1⟩ := hx.one
    cases (show v = _ from h1)
    exact .inl ⟨i, rfl, k _ _ _ nr_int hf⟩
  | [.bl b], hf =>
    obtain ⟨v, rfl, h1⟩ := hx.one
    cases (show v = _ from h1)
    exact .inr ⟨b, rfl, k _ _ _ nr_int hf⟩
theorem b_str : Bfn X (.type "str") gStr := .of call_str_int fun {Hs H ds vs R Q} e sy hx hf k => by
  match ds, hf with
  | [.int i], hf =>
    obtain ⟨v, rfl, h1⟩ := hx.one
    cases (show v = _ from h1)
    exact ⟨i, rfl, hf.1, k _ _ _ nr_str hf.2⟩
/-- sorted of alike data -/
theorem each_of_rp {pins : List (Addr × Obj)} {σ : St} {H Hs : Hp} {s : Shared} (I : Inv X pins σ H s) (e : Same Hs H) (sy : Sys H) : ∀ {ds : List D} {vs : List V} {us : List Value}, RpL X.K Hs ds vs → Vals vs us → (∀ d ∈ ds, d.isD = true) →
    PySem.W.EachIs (fun u d => (∃ v, Rp X.K Hs d v ∧ RelV v u)) us ds ∧ PySem.W.EachIs (fun u d => ∃ as, Reads s.heap u (D.py d) as) us ds
  | [], _, _, h, r, _ => by cases (show _ = [] from h); cases r; exact ⟨.nil, .nil⟩
  | d :: ds, _, _, ⟨v, vs, q, h1, h2⟩, r, hd => by
    subst q
    cases r with
    | cons r1 r2 =>
      obtain ⟨a1, a2⟩ := each_of_rp I e sy h2 r2 fun d hd' => hd d (List.mem_cons_of_mem _ hd')
      obtain ⟨as, q, _⟩ := Rp.reads I sy d v _ (hd d List.mem_cons_self) (Rp.mono e _ _ h1) r1
      exact ⟨.cons ⟨v, h1, r1⟩ a1, .cons ⟨as, q⟩ a2⟩
theorem rp_of_each {K : PySem.W.Frag} {Hs : Hp} : ∀ {ds : List D} {us : List Value}, PySem.W.EachIs (fun u d => (∃ v, Rp K Hs d v ∧ RelV v u)) us ds → ∃ vs, RpL K Hs ds vs ∧ Vals vs us
  | _, _, .nil => ⟨[], rfl, .nil⟩
  | _, _, .cons ⟨v, h1, h2⟩ t => let ⟨vs, q1, q2⟩ := rp_of_each t; ⟨v :: vs, ⟨v, vs, rfl, h1, q1⟩, .cons h2 q2⟩
theorem call_sortedZ (hu : X.A.units + 64 < cLine) : CallR X (.builtin "sorted") (fun vs H Q => ∃ a ws ds Hs, vs = [.ref a] ∧ Same Hs H ∧ Sys H ∧ H a = some (.lst ws) ∧ RpL X.K Hs ds ws ∧ okSort ds ∧ ∀ p ws', H p = none → RpL X.K Hs (sortD ds) ws' → Q (.ref p) (upd H p (.lst ws'))) := by
  intro pins s σ H vs us Q I r h
  obtain ⟨a, ws, ds, Hs, rfl, e, sy, ha, hr, ⟨o1, o2, o3, o4⟩, q⟩ := h
  rw [Vals.ref1 r]
  obtain ⟨its, rv, hl, _⟩ := I.list (SqL.of ha)
  obtain ⟨e1, e2⟩ := each_of_rp I e sy hr rv fun d hd => (o3 d hd).1
  refine PySem.W.sorted_data hl.isList e1 e2 o1 o2 o4 (fun d hd => by have := (o3 d hd).2; omega) fun out hlen hout => ?_
  obtain ⟨ws', q1, q2⟩ := rp_of_each hout
  obtain ⟨ep, he'⟩ := PyProof.Rows.sortedAll_at s.heap its out.toArray
  have hz : ws'.length ≤ sizeLine := by rw [q2.length, hlen]; exact o4
  have I' : Inv X pins σ (upd H (s.heap.objs.size + 1) (.lst ws')) { s with heap := PyProof.Rows.sortedAll s.heap its out.toArray } :=
    I.laid (t' := s.toks) (fun _ _ => PyProof.Rows.sortedAll_old) (Nat.le_succ _) ⟨hz, out, ep, q2, he'⟩
  exact ⟨.ref _, _, I', rfl, q _ _ (I.hok.fresh (Nat.le_succ _)) q1⟩
theorem b_sorted (hu : X.A.units + 64 < cLine) : Bfn X (.builtin "sorted") gSorted := .of (call_sortedZ hu) fun {Hs H ds vs R Q} e sy hx hf k => by
  match ds, hf with
  | [.lst xs], hf =>
    obtain ⟨v, rfl, a, ws, rfl, h1, h2⟩ := hx.one
    exact ⟨a, ws, xs, Hs, rfl, e, sy, h1, h2, hf.1, fun p ws' hp hr => k _ _ _ (.nl hp hr) hf.2⟩
end
end Pz

set_option maxRecDepth 100000
set_option maxHeartbeats 4000000
/-! Pz, part 7: subscripts, slices; defs, their promises, calls. -/
namespace Pz
open PySem L2 PySem.Spec PyProof.Rows

/-! ### subscripts and slices -/
def lookD (ks : List Key) (xs : List D) (k : Key) : Option D := ((ks.zip xs).find? fun kv => decide (kv.1 = k)).map (·.2)
def fIx : F2
  | .lst xs, .int i, R => ∃ d, atI xs i = some d ∧ R (.d d)
  | .tup xs, .int i, R => ∃ d, atI xs i = some d ∧ R (.d d)
  | .str z, .int i, R => ∃ c, z.length ≤ sizeLine ∧ atI z.cps.toList i = some c ∧ R (.d (.str ⟨#[c]⟩))
  | .dic ks xs, y, R => ∃ k d, keyOf y = some k ∧ lookD ks xs k = some d ∧ R (.d d)
  | _, _, _ => False
theorem lookD_rp {K : PySem.W.Frag} {H : Hp} {k : Key} : ∀ {ks : List Key} {xs : List D} {vs : List V} {d : D}, RpL K H xs vs → lookD ks xs k = some d → ∃ v, valV (ks.zip vs) k = some v ∧ Rp K H d v
  | [], _, _, _, _, e => by simp [lookD] at e
  | _ :: _, [], _, _, _, e => by simp [lookD] at e
  | j :: ks, x :: xs, _, d, ⟨v, r, h1, h2, h3⟩, e => by
    subst h1
    unfold lookD at e
    rw [List.zip_cons_cons, List.find?_cons] at e
    by_cases z : j = k
    · simp [z] at e
      subst e
      exact ⟨v, by rw [List.zip_cons_cons, valV_pos (p := (j, v)) z], h2⟩
    · simp [z] at e
      obtain ⟨w, q1, q2⟩ := lookD_rp (ks := ks) (d := d) h3 (by unfold lookD; simpa using e)
      exact ⟨w, by rw [List.zip_cons_cons, valV_neg (p := (j, v)) z]; exact q1, q2⟩
theorem atI_rp {K : PySem.W.Frag} {H : Hp} {xs : List D} {vs : List V} {i : Int} {d : D} (h : RpL K H xs vs) (e : atI xs i = some d) : ∃ v, atI vs i = some v ∧ Rp K H d v := by
  unfold atI at e
  obtain ⟨j, h1, h2⟩ := Option.bind_eq_some_iff.mp e
  obtain ⟨v, q1, q2⟩ := h.get h2
  refine ⟨v, ?_, q2⟩
  unfold atI
  rw [← h.length, h1]
  exact q1
section
variable {X : Cx}
theorem ix_dictZ (hu : X.A.units + 1 < cLine) : IxR X (fun x y H Q => ∃ a v, x = .ref a ∧ DGet H a y (some v) ∧ Q v H) := by
  intro value slice pins s σ H x y v u Q I rx ry h hs
  obtain ⟨a, z, rfl, g, q⟩ := h
  cases rx
  exact tail_any (dict_typeIs I g) PySem.F.slot_dict_getitem.lookup (d_getItem hu I g ry fun w' s' I' rw' => ⟨z, H, I', rw', q⟩) hs
def Ixs (X : Cx) : Prop := ∃ r, IxR X r ∧ Op2 X.K r fIx
theorem ixs_all (hu : X.A.units + 1 < cLine) : Ixs X := by
  refine ⟨_, ix_seq.or (ix_dictZ hu), fun {Hs H x y v u R Q} e sy hx hy hf k => ?_⟩
  cases x with
  | lst xs =>
    cases y with
    | int i =>
      obtain ⟨d, h1, h2⟩ := hf
      obtain ⟨a, vs, rfl, h3, h4⟩ := hx
      cases (show u = _ from hy)
      obtain ⟨w, q1, q2⟩ := atI_rp h4 h1
      exact .inl (.inl ⟨a, vs, i, w, rfl, rfl, SqL.of h3, q1, k _ _ _ (.old q2) h2⟩)
    | _ => exact hf.elim
  | tup xs =>
    cases y with
    | int i =>
      obtain ⟨d, h1, h2⟩ := hf
      obtain ⟨a, vs, rfl, h3, h4⟩ := hx
      cases (show u = _ from hy)
      obtain ⟨w, q1, q2⟩ := atI_rp h4 h1
      exact .inl (.inr (.inl ⟨a, vs, i, w, rfl, rfl, same_t e h3, q1, k _ _ _ (.old q2) h2⟩))
    | _ => exact hf.elim
  | str z =>
    cases y with
    | int i =>
      obtain ⟨c, h0, h1, h2⟩ := hf
      cases (show v = _ from hx)
      cases (show u = _ from hy)
      exact .inl (.inr (.inr ⟨z, i, c, rfl, rfl, h0, h1, k _ _ _ nr_str h2⟩))
    | _ => exact hf.elim
  | dic ks xs =>
    have hf' : ∃ k d, keyOf y = some k ∧ lookD ks xs k = some d ∧ R (.d d) := by cases y <;> exact hf
    obtain ⟨kk, d, h1, h2, h3⟩ := hf'
    obtain ⟨a, vs, rfl, h4, h5, h6⟩ := hx
    cases keyOf_rp h1 hy
    obtain ⟨w, q1, q2⟩ := lookD_rp h6 h2
    refine .inr ⟨a, w, rfl, ?_, k _ _ _ (.old q2) h3⟩
    rw [← q1]
    exact DGet.k h4
  | _ => cases y <;> exact hf.elim

def cutD {α : Type} (xs : List α) (lo hi : Option Int) : List α := (xs.drop (HT.sIx xs.length 0 lo)).take (HT.sIx xs.length xs.length hi - HT.sIx xs.length 0 lo)
abbrev F3 := D → Option Int → Option Int → (Res → Prop) → Prop
def fSl : F3
  | .lst xs, lo, hi, R => R (.l (cutD xs lo hi))
  | .tup xs, lo, hi, R => R (.d (.tup (cutD xs lo hi)))
  | .str z, lo, hi, R => z.length ≤ sizeLine ∧ R (.d (.str (cutS z lo hi)))
  | _, _, _, _ => False
theorem cut_rp {K : PySem.W.Frag} {H : Hp} {xs : List D} {vs : List V} {lo hi : Option Int} (h : RpL K H xs vs) : RpL K H (cutD xs lo hi) (cutV vs lo hi) := by
  unfold cutD cutV
  rw [h.length]
  exact (h.drop _).take _
def rSl3 (K : PySem.W.Frag) : V → Option Int → Option Int → Hp → VK → Prop := fun x lo hi H Q => rSlL K x lo hi H Q ∨ rSlA K x lo hi H Q ∨ rSlS x lo hi H Q
theorem sl3 : SlR X (rSl3 X.K) := sl_list.or (sl_tupA.or sl_str)
theorem sl_op {K : PySem.W.Frag} {Hs H : Hp} {x : D} {v : V} {lo hi : Option Int} {R : Res → Prop} {Q : VK} (e : Same Hs H) (hx : Rt K Hs H x v) (hf : fSl x lo hi R) (k : ∀ z res H', NR K Hs H z res H' → R res → Q z H') : rSl3 K v lo hi H Q := by
  cases x with
  | lst xs =>
    obtain ⟨a, vs, rfl, h1, h2⟩ := hx
    exact .inl ⟨a, vs, rfl, SqL.of h1, fun p hp => k _ _ _ (.nl hp (cut_rp h2)) hf⟩
  | tup xs =>
    have h0 : Rp K Hs (.tup xs) v := hx
    obtain ⟨a, vs, rfl, h1, h2⟩ := hx
    refine .inr (.inl ⟨a, vs, rfl, same_t e h1, fun z => ?_, fun _ p hp => k _ _ _ (.nt hp (cut_rp h2)) hf⟩)
    have q : cutD xs lo hi = xs := by
      unfold cutD
      rw [h2.length, z.1, z.2, ← h2.length]
      simp
    have hf' : R (.d (.tup xs)) := by rw [← q]; exact hf
    exact k _ _ _ (.old h0) hf'
  | str z => cases (show v = _ from hx); exact .inr (.inr ⟨z, rfl, hf.1, k _ _ _ nr_str hf.2⟩)
  | _ => exact hf.elim
end

/-! ### defs -/
/-- a def that keeps its promise where no repr runs around -/
structure FnZ (P : Program) (w : World) (K : PySem.W.Frag) (mg : Str → Option Value) (base : Heap) (CX : CXT) (k : Nat) (f : Addr) (fd : FuncData) (ps : List Str) (sp : Sp) : Prop where
  len : ∀ vs H Q E, sp vs H Q E → vs.length = ps.length
  run : ∀ (A : Around) (outer : List Env) (s : Shared) (H : Hp) (args : Args) (us : List Value) (vs : List V) (Q : VK) (E : XK), A.guards = some [] → Room k A → Env0 P w K mg base A outer s H → BindsTo s fd args (ps.zip us) → Vals vs us → sp vs H Q E →
    codeAny (model P w) A (.call (.ref f) args) (CR CX outer P w H s Q E) s
theorem FnZ.mono {P : Program} {w : World} {K : PySem.W.Frag} {mg : Str → Option Value} {base : Heap} {CX : CXT} {j k : Nat} {f : Addr} {fd : FuncData} {ps : List Str} {sp : Sp} (F : FnZ P w K mg base CX j f fd ps sp) (h : j ≤ k) : FnZ P w K mg base CX k f fd ps sp :=
  ⟨F.len, fun A outer s H args us vs Q E hg hr => F.run A outer s H args us vs Q E hg (hr.mono h)⟩
section
variable {X : Cx} {CX : CXT} {k : Nat} {f C : Addr} {fd : FuncData} {ps : List Str} {sp : Sp} {dvs : List V} {ds : List Value} {E : XK} {x m : Str} {p pos apos : Pos} {e o : Expr} {es : List Expr} {ta : TE} {t : TA}
theorem runZ {pins : List (Addr × Obj)} {σ : L2.St} {H : Hp} {s : Shared} {Q : VK} {us : List Value} {vs : List V} (F : FnZ X.prog X.w X.K X.mg X.base CX k f fd ps sp) (hg : X.A.guards = some []) (hr : Room k X.A) (hb : Binds X.K fd ps []) (hx : Passes CX X E)
    (I : Inv X pins σ H s) (r : Vals vs us) (h : sp vs H Q E) : wpAny (model X.prog X.w) X.A (call (.ref f) us) (EP X pins σ Q) X.xe s := by
  have hl : us.length = ps.length := by rw [← r.length]; exact F.len _ _ _ _ h
  have hb' := hb s us I.kIn (by rw [List.append_nil]; exact hl)
  rw [List.append_nil] at hb'
  refine wpAny_call (codeAny_mono (F.run X.A X.stack s H ⟨us, []⟩ us vs Q E hg hr I.env0 hb' r h) fun res s' hq => ?_)
  match res, hq with
  | .error e, hq => exact hx pins σ H s e s' I hq
  | .ok (.ret u), hq => exact I.after hq
  | .ok .next, hq => exact hq.elim
  | .ok .brk, hq => exact hq.elim
  | .ok .cont, hq => exact hq.elim
theorem pe_callZ (F : FnZ X.prog X.w X.K X.mg X.base CX k f fd ps sp) (hgd : X.A.guards = some []) (hr : Room k X.A) (hg : Gl X x) (hm : X.mg x = some (.ref f)) (hk : PySem.W.keepIn X.K (.ref f) = true) (hb : Binds X.K fd ps []) (hx : Passes CX X E)
    (ha : PA X (e :: es) t) (hdb : (x == ("__debug__" : Str)) = false) (he : starEach (e :: es) X.env = (false, eval e X.env) :: starEach es X.env) (hpl : (backTo pos (starEach es X.env)).any (·.1) = false) :
    PE X (.Call (.Name x p) (e :: es) [] pos) (fun σ H Q => t σ H fun vs H1 => sp vs H1 Q E) := ⟨fun pins s σ H Q I h =>
  wpAny_Call_Name_kw (ld_glob I hg hm (PySem.W.callWith_K (h₀ := X.base) I.ok.mod.kin hk (thn (ha.run pos pins s σ H _ I h) fun us s1 ⟨vs, H1, I1, r, q⟩ => ⟨I1.kIn, runZ F hgd hr hb hx I1 r q⟩) he hpl) hdb)⟩
theorem pe_callZ0 (F : FnZ X.prog X.w X.K X.mg X.base CX k f fd ps sp) (hgd : X.A.guards = some []) (hr : Room k X.A) (hg : Gl X x) (hm : X.mg x = some (.ref f)) (hk : PySem.W.keepIn X.K (.ref f) = true) (hb : Binds X.K fd ps []) (hx : Passes CX X E)
    (hdb : (x == ("__debug__" : Str)) = false) : PE X (.Call (.Name x p) [] [] pos) (fun σ H Q => sp [] H Q E) := ⟨fun pins s σ H Q I h =>
  wpAny_Call_Name_kw (ld_glob I hg hm (PySem.W.callWith_K0 I.kIn hk (runZ (us := []) F hgd hr hb hx I .nil h)) hdb)⟩
end
/-- THE RULE of a def -/
theorem fnz_of {CX : CXT} {P : Program} {w : World} {K : PySem.W.Frag} {mg : Str → Option Value} {base : Heap} {k : Nat} {x qual : Str} {st : Stmt} {f : Addr} {fd : FuncData} {N ps : List Str} {sp : Sp} (F : Fun K x qual st f fd) (S : FnScope N ps (defScope st))
    (len : ∀ vs H Q E, sp vs H Q E → vs.length = ps.length)
    (hbody : ∀ (cdv : Value) (A : Around) (outer : List Env) (s : Shared) (H : Hp) (vs : List V) (Q : VK) (E : XK), A.guards = some [] → Room k (A.deeper (envOfC qual (defScope st) s.heap.objs.size f cdv)) → sp vs H Q E →
      ∃ t, PSs (cxOf CX P w K mg base N qual (defScope st) f cdv A outer s H E) (defBody st) t ∧ t { nx := fun _ H' => Q .non H', rt := Q } (start N vs) H) :
    FnZ P w K mg base CX (k + 1) f fd ps sp := by
  obtain ⟨oc, od, kV, doc, pm, an, cdv, ct, osl, rfl, lk, hcd⟩ := F.ex
  refine ⟨len, fun A outer s H args us vs Q E hg hr e0 hb r hsp => ?_⟩
  have hl := len _ _ _ _ hsp
  have KX : K.In s.heap := e0.mod.kin.keeps fun b o e => (e0.bs b o e).1
  have lim : s.heap.NoLimit := e0.mod.nolimit.keeps fun b o e => (e0.bs b o e).1
  refine codeAny_call_function hr.depth (KX _ _ lk) rfl S.co S.gen rfl (PySem.W.codeRec_of KX hcd) (hb _ _ _ _ ?_)
  refine wpAny_newFunctionEnv_cells S.kind (fun ⟨y1, y2⟩ hy => ?_) fun env he s1 x1 => ?_
  · rcases S.par y1 (List.of_mem_zip hy).1 with q | q
    · exact .inl q
    · exact .inr ⟨q, PySem.W.cellsFrom_some _ _ _ (.inl q)⟩
  subst he
  refine ⟨lim.keeps x1.toInCall.keep, codeAny_func ?_⟩
  obtain ⟨t, ht, hq⟩ := hbody cdv A outer s H vs Q E hg (hr.deeper _) hsp
  have I : Inv (cxOf CX P w K mg base N qual (defScope st) f cdv A outer s H E) [] (start N vs) H s1 := inv_start S hr.hd e0 hl r x1
  refine wpAny_mono (ht.run [] s1 (start N vs) H _ I hq) (fun fl s' hs => ?_) fun e s' hs => hs
  match fl, hs with
  | .ret u, ⟨v, σ', H', J, rv, q⟩ => exact ⟨v, H', J.os, J.bare, J.base, J.hok, rv, q⟩
  | .next, ⟨σ', H', J, q⟩ => exact ⟨.non, H', J.os, J.bare, J.base, J.hok, rfl, q⟩
  | .brk, ⟨_, _, _, q⟩ => exact q.elim
  | .cont, ⟨_, _, _, q⟩ => exact q.elim
end Pz

set_option maxRecDepth 100000
set_option maxHeartbeats 4000000
/-! Pz, part 8: judgements of expressions. -/
namespace Pz
open PySem L2 PySem.Spec PyProof.Rows

/-! ### what a callee promises, in data -/
inductive FnI where
  /-- touches nothing -/
  | pu (pf : List D → (Res → Prop) → Prop)
  /-- draws from the deck, its first argument -/
  | dk (pf : List D → Nat → (Res → Nat → Prop) → Prop)
/-- what is handed back: a datum, or a new object that nobody else knows -/
def RF (K : PySem.W.Frag) (Hs H H' : Hp) (v : V) : Res → Prop
  | .d x => Rp K Hs x v
  | .l xs => ∃ a vs, v = .ref a ∧ H a = none ∧ Hs a = none ∧ H' a = some (.lst vs) ∧ RpL K Hs xs vs
  | .m ks xs => ∃ a vs, v = .ref a ∧ H a = none ∧ Hs a = none ∧ H' a = some (.dK (ks.zip vs)) ∧ ks.length = xs.length ∧ RpL K Hs xs vs
  | .p _ => False
def spP (K : PySem.W.Frag) (pf : List D → (Res → Prop) → Prop) : Sp := fun vs H Q _ => ∃ (Hs : Hp) (ds : List D) (R : Res → Prop), Same Hs H ∧ Sys Hs ∧ RpL K Hs ds vs ∧ pf ds R ∧
  ∀ Hs' H' v r, Same Hs Hs' → Same Hs' H' → Same H H' → (∀ b, H b ≠ none → Hs b = none → Hs' b = none) → RF K Hs' H H' v r → R r → Q v H'
def spD (K : PySem.W.Frag) (pf : List D → Nat → (Res → Nat → Prop) → Prop) : Sp := fun vs H Q _ => ∃ (p c : Addr) (ws : List V) (k : Nat) (Hs : Hp) (ds : List D) (R : Res → Nat → Prop), vs = .ref p :: ws ∧ Same Hs H ∧ Sys Hs ∧ Dk (some (p, c)) Hs H k ∧
  RpL K Hs ds ws ∧ pf ds k R ∧
  ∀ Hs' H' v r k', Same Hs Hs' → Same Hs' H' → Dk (some (p, c)) Hs' H' k' → (∀ b o, H b = some o → ¬ inDk (some (p, c)) b → H' b = some o) → (∀ b, H b ≠ none → Hs b = none → Hs' b = none) → RF K Hs' H H' v r → R r k' → Q v H'
def FnI.sp (K : PySem.W.Frag) : FnI → Sp
  | .pu pf => spP K pf
  | .dk pf => spD K pf
/-- n arguments (the deck is one) -/
def FnI.Len (n : Nat) : FnI → Prop
  | .pu pf => ∀ ds R, pf ds R → ds.length = n
  | .dk pf => ∀ ds k R, pf ds k R → ds.length + 1 = n
theorem FnI.len {K : PySem.W.Frag} {n : Nat} {i : FnI} (h : i.Len n) : ∀ vs H Q E, i.sp K vs H Q E → vs.length = n := fun vs H Q E q => by
  cases i with
  | pu pf => obtain ⟨Hs, ds, R, _, _, h1, h2, _⟩ := q; rw [← h1.length]; exact h _ _ h2
  | dk pf => obtain ⟨p, c, ws, k, Hs, ds, R, rfl, _, _, _, h1, h2, _⟩ := q; rw [List.length_cons, ← h1.length]; exact h _ _ _ h2

/-- what may be called: by place, by name -/
structure Fs where
  fn : Str → Option FnI
  kw : Str → List Str → Option FnI
def pick {α : Type} (π : List Nat) (l : List α) : List α := π.filterMap fun i => l[i]?
/-- what holds of the program -/
structure Gam where
  P : Program
  w : World
  K : PySem.W.Frag
  mg : Str → Option Value
  base : Heap
  lv : Nat
  dk : Option (Addr × Addr)
  F : Fs
def blts : List Str := ["len", "repr", "isinstance", "tuple", "list", "sorted", "sum", "max", "min", "all", "any", "int", "bool", "str", "dict", "range", "zip", "enumerate", "set", "abs"]
/-- a def of the module that may be called -/
structure Has (Γ : Gam) (x : Str) (i : FnI) : Prop where
  ex : ∃ (f : Addr) (fd : FuncData) (ps : List Str) (k : Nat), k ≤ Γ.lv ∧ FnZ Γ.P Γ.w Γ.K Γ.mg Γ.base CX0 k f fd ps (i.sp Γ.K) ∧ Γ.mg x = some (.ref f) ∧ PySem.W.keepIn Γ.K (.ref f) = true ∧ Binds Γ.K fd ps []
/-- .. by the names ks; π puts them in order -/
structure HasK (Γ : Gam) (x : Str) (ks : List Str) (i : FnI) : Prop where
  ex : ∃ (f : Addr) (fd : FuncData) (ps : List Str) (k : Nat) (pf : List D → (Res → Prop) → Prop) (π : List Nat), k ≤ Γ.lv ∧ FnZ Γ.P Γ.w Γ.K Γ.mg Γ.base CX0 k f fd ps (spP Γ.K pf) ∧ Γ.mg x = some (.ref f) ∧ PySem.W.keepIn Γ.K (.ref f) = true ∧
    (∀ (s : Shared) (ws : List Value), Γ.K.In s.heap → ws.length = ks.length → BindsTo s fd ⟨[], ks.zip ws⟩ (ps.zip (pick π ws))) ∧ i = .pu (fun ds R => ds.length = ks.length ∧ pf (pick π ds) R)
structure Gam.Ok (Γ : Gam) : Prop where
  fn : ∀ x i, Γ.F.fn x = some i → Has Γ x i
  kw : ∀ x ks i, Γ.F.kw x ks = some i → HasK Γ x ks i
  nb : ∀ x ∈ blts, Γ.mg x = none
/-- the scope at hand: the names by slot, their kinds, which cells are its own -/
structure Sx where
  N : List Str
  sc : Scope
  fb : Str → Bool
structure Good (Γ : Gam) (S : Sx) (X : Cx) : Prop where
  P : X.prog = Γ.P
  w : X.w = Γ.w
  K : X.K = Γ.K
  mg : X.mg = Γ.mg
  base : X.base = Γ.base
  N : X.N = S.N
  sc : X.env.scope = S.sc
  fb : X.fn = S.fb
  nd : S.N.Nodup
  calm : X.calm = true
  gd : X.A.guards = some []
  room : Room Γ.lv X.A
  po : PassesOwn (model X.prog X.w) X.A X.env X.xe
theorem Good.hu {Γ : Gam} {S : Sx} {X : Cx} (g : Good Γ S X) : X.A.units + 64 < cLine := g.room.units
theorem Has.at {Γ : Gam} {S : Sx} {X : Cx} (g : Good Γ S X) {x : Str} {i : FnI} (h : Has Γ x i) :
    ∃ (f : Addr) (fd : FuncData) (ps : List Str) (k : Nat), k ≤ Γ.lv ∧ FnZ X.prog X.w X.K X.mg X.base CX0 k f fd ps (i.sp X.K) ∧ X.mg x = some (.ref f) ∧ PySem.W.keepIn X.K (.ref f) = true ∧ Binds X.K fd ps [] := by
  obtain ⟨f, fd, ps, k, h⟩ := h.ex
  rw [g.P, g.w, g.K, g.mg, g.base]
  exact ⟨f, fd, ps, k, h⟩

theorem HasK.at {Γ : Gam} {S : Sx} {X : Cx} (g : Good Γ S X) {x : Str} {ks : List Str} {i : FnI} (h : HasK Γ x ks i) :
    ∃ (f : Addr) (fd : FuncData) (ps : List Str) (k : Nat) (pf : List D → (Res → Prop) → Prop) (π : List Nat), k ≤ Γ.lv ∧ FnZ X.prog X.w X.K X.mg X.base CX0 k f fd ps (spP X.K pf) ∧ X.mg x = some (.ref f) ∧ PySem.W.keepIn X.K (.ref f) = true ∧
    (∀ (s : Shared) (ws : List Value), X.K.In s.heap → ws.length = ks.length → BindsTo s fd ⟨[], ks.zip ws⟩ (ps.zip (pick π ws))) ∧ i = .pu (fun ds R => ds.length = ks.length ∧ pf (pick π ds) R) := by
  obtain ⟨f, fd, ps, k, h⟩ := h.ex
  rw [g.P, g.w, g.K, g.mg, g.base]
  exact ⟨f, fd, ps, k, h⟩

/-! ### expressions -/
def wc (d : D) : W := fun ρ R => R (.d d) ρ
def wv (i : Nat) : W := fun ρ R => match ρ.v[i]? with
  | some (some (.d x)) => R (.d x) ρ
  | some (some _) => R (.p i) ρ
  | _ => False
def w1 (a : W) (f : F1) : W := fun ρ R => a ρ fun r ρ' => ∃ x, r.fz.look ρ' = some x ∧ f x fun z => R z ρ'
def w2 (a b : W) (f : F2) : W := fun ρ R => a ρ fun r1 ρ1 => b ρ1 fun r2 ρ2 => ∃ x y, r1.fz.look ρ2 = some x ∧ r2.fz.look ρ2 = some y ∧ f x y fun z => R z ρ2
def looks (ρ : S) : List O → Option (List D)
  | [] => some []
  | o :: os => match o.look ρ, looks ρ os with
    | some x, some xs => some (x :: xs)
    | _, _ => none
def fzs (ρ : S) : List O → S
  | [] => ρ
  | o :: os => fzs (o.fz ρ) os
def waNil : WA := fun ρ R => R [] ρ
def waCons (a : W) (t : WA) : WA := fun ρ R => a ρ fun r ρ1 => t ρ1 fun os ρ2 => R (r.fz :: os) ρ2
def wN (t : WA) (f : FN) : W := fun ρ R => t ρ fun os ρ' => ∃ ds, looks ρ' os = some ds ∧ f ds fun z => R z ρ'
/-- the parts of a new tuple or list: data that stay -/
def wTup (t : WA) : W := fun ρ R => t ρ fun os ρ' => ∃ ds, looks ρ' os = some ds ∧ ds.length ≤ sizeLine ∧ R (.d (.tup ds)) (fzs ρ' os)
def wLst (t : WA) : W := fun ρ R => t ρ fun os ρ' => ∃ ds, looks ρ' os = some ds ∧ ds.length ≤ sizeLine ∧ R (.l ds) (fzs ρ' os)
/-- truth -/
def tru : D → (Bool → Prop) → Prop
  | .non, K => K false
  | .bl b, K => K b
  | .int i, K => K (i != 0)
  | .str x, K => x.length ≤ sizeLine ∧ K ((x.length : Int) != 0)
  | .lst xs, K => K (!xs.isEmpty)
  | .tup xs, K => K (!xs.isEmpty)
  | .dic ks _, K => K (!ks.isEmpty)
  | _, _ => False
def wtv (a : W) : WT := fun ρ K => a ρ fun r ρ' => ∃ x, r.fz.look ρ' = some x ∧ tru x fun b => K b ρ'
def wtNot (t : WT) : WT := fun ρ K => t ρ fun b ρ' => K (!b) ρ'
def wtAnd (t u : WT) : WT := fun ρ K => t ρ fun b ρ' => if b = true then u ρ' K else K false ρ'
def wtOr (t u : WT) : WT := fun ρ K => t ρ fun b ρ' => if b = true then K true ρ' else u ρ' K
def wNot (a : W) : W := fun ρ R => a ρ fun r ρ' => ∃ x, r.fz.look ρ' = some x ∧ tru x fun b => R (.d (.bl (!b))) ρ'
def wAnd (a b : W) : W := fun ρ R => a ρ fun r ρ' => ∃ x, r.fz.look ρ' = some x ∧ tru x fun k => if k = true then b ρ' R else R (.d x) (r.fz.fz ρ')
def wOr (a b : W) : W := fun ρ R => a ρ fun r ρ' => ∃ x, r.fz.look ρ' = some x ∧ tru x fun k => if k = true then R (.d x) (r.fz.fz ρ') else b ρ' R
def wIf (t : WT) (a b : W) : W := fun ρ R => t ρ fun k ρ' => if k = true then a ρ' R else b ρ' R
/-- a op b op' c -/
def wChain (a b c : W) (f f' : F2) : W := fun ρ R => a ρ fun r1 ρ1 => b ρ1 fun r2 ρ2 => ∃ x y, r1.fz.look ρ2 = some x ∧ r2.fz.look ρ2 = some y ∧ f x y fun z => ∃ k, z = .d (.bl k) ∧
  if k = true then c ρ2 fun r3 ρ3 => ∃ y' u, r2.fz.look ρ3 = some y' ∧ r3.fz.look ρ3 = some u ∧ f' y' u fun z => R z ρ3 else R (.d (.bl false)) ρ2
/-- f(..), a def of the module -/
def wCall (dk : Option (Addr × Addr)) (i : FnI) (t : WA) : W := fun ρ R => t ρ fun os ρ' => ∃ ds, looks ρ' os = some ds ∧ match i with
  | .pu pf => pf ds fun z => R z (fzs ρ' os)
  | .dk pf => match dk, ds with
    | some (p, _), .cst (.ref q) :: es => p = q ∧ pf es ρ'.k fun z k => R z { fzs ρ' os with k := k }
    | _, _ => False

section
variable {Γ : Gam} {X : Cx} {dk : Option (Addr × Addr)} {a b c e : Expr} {es : List Expr} {wa wb wc' : W} {t : WA} {pos : Pos}
theorem je_weak {w w' : W} (h : JE X dk e w) (k : ∀ ρ R, w' ρ R → w ρ R) : JE X dk e w' := fun P fit => pe_weak (h P fit) fun σ H Q ⟨τ, Hs, ρ, R, E, q, z⟩ => ⟨τ, Hs, ρ, R, E, k _ _ q, z⟩
theorem je_int {i : Int} {j : Nat} : JE X dk (.Constant (.int i) j pos) (wc (.int i)) := fun P _ => pe_weak pe_int fun σ H Q ⟨τ, Hs, ρ, R, E, q, k⟩ => k Hs H ρ _ (.d (.int i)) (Same.refl _) E rfl q
theorem je_bl {i : Bool} {j : Nat} : JE X dk (.Constant (.bool i) j pos) (wc (.bl i)) := fun P _ => pe_weak pe_bl fun σ H Q ⟨τ, Hs, ρ, R, E, q, k⟩ => k Hs H ρ _ (.d (.bl i)) (Same.refl _) E rfl q
theorem je_non {j : Nat} : JE X dk (.Constant .none j pos) (wc .non) := fun P _ => pe_weak pe_non fun σ H Q ⟨τ, Hs, ρ, R, E, q, k⟩ => k Hs H ρ _ (.d .non) (Same.refl _) E rfl q
theorem je_str {x : Str} {j : Nat} : JE X dk (.Constant (.str x) j pos) (wc (.str x)) := fun P _ => pe_weak pe_str fun σ H Q ⟨τ, Hs, ρ, R, E, q, k⟩ => k Hs H ρ _ (.d (.str x)) (Same.refl _) E rfl q
theorem app_get {σ : L2.St} {τ : List V} {i : Nat} {v : V} (hi : i < σ.length) (h : (σ ++ τ.map some)[i]? = some (some v)) : σ[i]? = some (some v) := by rwa [List.getElem?_append_left hi] at h
theorem je_var {i : Nat} {x : Str} (hN : X.N[i]? = some x) (hv : Vis X.env.scope x) (hd : (x == ("__debug__" : Str)) = false) (hcd : (x == ("__classdict__" : Str)) = false) : JE X dk (.Name x pos) (wv i) := fun P _ => by
  refine ⟨fun pins s σ H Q I ⟨τ, Hs, ρ, R, E, q, k⟩ => ?_⟩
  have hi : i < σ.length := by rw [I.len]; exact (List.getElem?_eq_some_iff.mp hN).1
  refine (pe_var hN hv hd hcd).run pins s σ H Q I ?_
  unfold wv at q
  split at q
  · rename_i y e1
    obtain ⟨v, h1, h2⟩ := E.slot i _ e1
    exact ⟨v, app_get hi h1, k Hs H ρ v (.d y) (Same.refl _) E h2 q⟩
  · rename_i y hn e1
    obtain ⟨v, h1, h2⟩ := E.slot i _ e1
    refine ⟨v, app_get hi h1, k Hs H ρ v (.p i) (Same.refl _) E ⟨h1, y, e1, ?_⟩ q⟩
    cases y with
    | d z => exact absurd rfl (hn z)
    | _ => rfl
  · exact q.elim
/-- one operand -/
theorem op_go1 {P : Pm} {τ : List V} {Hs H : Hp} {σ : L2.St} {ρ : S} {v : V} {r : Res} {x : D} {f : F1} {g : V → Hp → VK → Prop} {R : Res → S → Prop} {Q : VK} (ho : Op1 P.K g f) (E : ER P Hs H (σ ++ τ.map some) ρ) (hr : RR P Hs H (σ ++ τ.map some) ρ v r) (hx : r.fz.look ρ = some x) (hf : f x fun z => R z ρ)
    (k : ∀ Hs' H' ρ' v r, Same Hs Hs' → ER P Hs' H' (σ ++ τ.map some) ρ' → RR P Hs' H' (σ ++ τ.map some) ρ' v r → R r ρ' → Q v H') : g v H Q := by
  obtain ⟨Hs1, g1, E1, q1⟩ := hr.fz E
  refine ho E1.sub E1.sysH (q1.rt E1 hx) hf fun z res H' nr hR => ?_
  obtain ⟨Hs2, g2, E2, q2⟩ := nr.er E1
  exact k Hs2 H' ρ z res (g1.trans g2) E2 q2 hR
theorem je_op1 {f : F1} {g : V → Hp → VK → Prop} (ho : Op1 X.K g f) (ha : JE X dk a wa) (pe : ∀ ta, PE X a ta → PE X e (fun σ H Q => ta σ H fun x H1 => g x H1 Q)) : JE X dk e (w1 wa f) := fun P fit =>
  pe_weak (pe _ (ha P fit)) fun σ H Q ⟨τ, Hs, ρ, R, E, q, k⟩ => ⟨τ, Hs, ρ, _, E, q, fun Hs1 H1 ρ1 v1 r1 g1 E1 q1 ⟨x, hx, hf⟩ => by
    exact op_go1 (fit.K ▸ ho) E1 q1 hx hf fun Hs' H' ρ' v r g E' => k Hs' H' ρ' v r (g1.trans g) E'⟩
theorem op_go2 {P : Pm} {τ : List V} {Hs Hs2 H2 : Hp} {σ : L2.St} {ρ2 : S} {v v2 : V} {r r2 : Res} {x y : D} {f : F2} {g : R2} {R : Res → S → Prop} {Q : VK} (ho : Op2 P.K g f) (q1 : RO P Hs (σ ++ τ.map some) v r.fz) (s12 : Same Hs Hs2)
    (E2 : ER P Hs2 H2 (σ ++ τ.map some) ρ2) (hr2 : RR P Hs2 H2 (σ ++ τ.map some) ρ2 v2 r2) (hx : r.fz.look ρ2 = some x) (hy : r2.fz.look ρ2 = some y) (hf : f x y fun z => R z ρ2)
    (k : ∀ Hs' H' v r, Same Hs2 Hs' → ER P Hs' H' (σ ++ τ.map some) ρ2 → RR P Hs' H' (σ ++ τ.map some) ρ2 v r → R r ρ2 → Q v H') : g v v2 H2 Q := by
  obtain ⟨Hs3, g3, E3, q3⟩ := hr2.fz E2
  refine ho E3.sub E3.sysH ((q1.mono (s12.trans g3)).rt E3 hx) (q3.rt E3 hy) hf fun z res H' nr hR => ?_
  obtain ⟨Hs4, g4, E4, q4⟩ := nr.er E3
  exact k Hs4 H' z res (g3.trans g4) E4 q4 hR
theorem je_op2 {f : F2} {g : R2} (ho : Op2 X.K g f) (ha : JE X dk a wa) (hb : JE X dk b wb) (pe : ∀ ta tb, PE X a ta → PE X b tb → PE X e (tOp g ta tb)) : JE X dk e (w2 wa wb f) := fun P fit =>
  pe_weak (pe _ _ (ha P fit) (hb P fit)) fun σ H Q ⟨τ, Hs, ρ, R, E, q, k⟩ => ⟨τ, Hs, ρ, _, E, q, fun Hs1 H1 ρ1 v1 r1 g1 E1 q1 h1 => by
    obtain ⟨Hs1', g1', E1', q1'⟩ := q1.fz E1
    exact ⟨τ, Hs1', ρ1, _, E1', h1, fun Hs2 H2 ρ2 v2 r2 g2 E2 q2 ⟨x, y, hx, hy, hf⟩ =>
      op_go2 (fit.K ▸ ho) q1' g2 E2 q2 hx hy hf fun Hs' H' v r g E' => k Hs' H' ρ2 v r (((g1.trans g1').trans g2).trans g) E'⟩⟩
theorem je_bin {op : Operator} (ha : JE X dk a wa) (hb : JE X dk b wb) : JE X dk (.BinOp a op b pos) (w2 wa wb (fBin op)) := by
  obtain ⟨r, h1, h2⟩ := bin_all (X := X) op
  exact je_op2 h2 ha hb fun ta tb pa pb => pe_op h1 pa pb
theorem bin_cmp (hu : X.A.units + 64 < cLine) : ∀ op : CmpOp, Bin X (compareOp op) (fCmp op)
  | .Eq => bin_eq hu
  | .NotEq => bin_ne hu
  | .Lt => bin_lt
  | .LtE => bin_le
  | .Gt => bin_gt
  | .GtE => bin_ge
  | .Is => bin_is false
  | .IsNot => bin_is true
  | .In => bin_in hu false
  | .NotIn => bin_in hu true
theorem je_cmp {op : CmpOp} (hu : X.A.units + 64 < cLine) (ha : JE X dk a wa) (hb : JE X dk b wb) (hm : behindInMarks op b = false) : JE X dk (.Compare a [op] [b] pos) (w2 wa wb (fCmp op)) := by
  obtain ⟨r, h1, h2⟩ := bin_cmp hu op
  exact je_op2 h2 ha hb fun ta tb pa pb => pe_cmpR h1 pa pb hm
theorem op1_neg : Op1 X.K (rU fun i => .int (-i)) fNeg := fun {Hs H x v R Q} e sy hx hf k => by
  cases x with
  | int i => cases (show v = _ from hx); exact ⟨i, rfl, k _ _ _ nr_int hf⟩
  | _ => exact hf.elim
theorem je_neg (ha : JE X dk a wa) : JE X dk (.UnaryOp .USub a pos) (w1 wa fNeg) := je_op1 op1_neg ha fun ta pa => pe_un un_neg pa
theorem je_ix (hu : X.A.units + 64 < cLine) (ha : JE X dk a wa) (hb : JE X dk b wb) (hs : PlainIx b) : JE X dk (.Subscript a b pos) (w2 wa wb fIx) := by
  obtain ⟨r, h1, h2⟩ := ixs_all (X := X) (by omega)
  exact je_op2 h2 ha hb fun ta tb pa pb => pe_ix h1 pa pb hs

/-! ### arguments -/
theorem ROs.mono {P : Pm} {Hs Hs' : Hp} {σ : L2.St} (g : Same Hs Hs') : ∀ {vs : List V} {os : List O}, ROs P Hs σ vs os → ROs P Hs' σ vs os
  | _, [], h => h
  | _, o :: os, ⟨v, r, e, h1, h2⟩ => ⟨v, r, e, h1.mono g, ROs.mono g h2⟩
theorem ja_nil : JA X dk [] waNil := fun P _ => pa_weak pa_nil fun σ H Q ⟨τ, Hs, ρ, R, E, q, k⟩ => k Hs H ρ [] [] (Same.refl _) E rfl q
theorem ja_cons (ha : JE X dk e wa) (hr : JA X dk es t) (hs : starEach (e :: es) X.env = (false, eval e X.env) :: starEach es X.env) : JA X dk (e :: es) (waCons wa t) := fun P fit =>
  pa_weak (pa_cons (ha P fit) (hr P fit) hs) fun σ H Q ⟨τ, Hs, ρ, R, E, q, k⟩ => ⟨τ, Hs, ρ, _, E, q, fun Hs1 H1 ρ1 v1 r1 g1 E1 q1 h1 => by
    obtain ⟨Hs1', g1', E1', q1'⟩ := q1.fz E1
    exact ⟨τ, Hs1', ρ1, _, E1', h1, fun Hs2 H2 ρ2 vs os g2 E2 q2 h2 => k Hs2 H2 ρ2 (v1 :: vs) (r1.fz :: os) ((g1.trans g1').trans g2) E2 ⟨v1, vs, rfl, q1'.mono g2, q2⟩ h2⟩⟩
theorem looks_rt {P : Pm} {Hs H : Hp} {σ : L2.St} {ρ : S} (E : ER P Hs H σ ρ) : ∀ {os : List O} {vs : List V} {ds : List D}, ROs P Hs σ vs os → looks ρ os = some ds → RtL P.K Hs H ds vs
  | [], _, _, h, e => by cases e; exact h
  | o :: os, _, ds, ⟨v, r, ev, h1, h2⟩, e => by
    unfold looks at e
    split at e
    · rename_i x xs e1 e2
      cases e
      exact ⟨v, r, ev, h1.rt E e1, looks_rt E h2 e2⟩
    · cases e
theorem fz_look {ρ : S} {o : O} {x : D} {i : Nat} (h : o.look ρ = some x) : o.look (ρ.fz i) = some x := by
  cases o with
  | d y => exact h
  | p j =>
    simp only [O.look] at h ⊢
    split at h
    · rename_i b hb
      cases h
      by_cases z : i = j
      · subst z
        rw [S.fz_of hb]
        have hl := (List.getElem?_eq_some_iff.mp hb).1
        simp [S.set, hl]
        rfl
      · have q : (ρ.fz i).v[j]? = ρ.v[j]? := by
          unfold S.fz
          split
          · rw [List.getElem?_set_ne z]
          · rfl
        rw [q, hb]
    · cases h
theorem ofz_look {ρ : S} {o o' : O} {x : D} (h : o.look ρ = some x) : o.look (o'.fz ρ) = some x := by
  cases o' with
  | d _ => exact h
  | p i => exact fz_look h
theorem looks_fz {ρ : S} {o : O} : ∀ {os : List O} {ds : List D}, looks ρ os = some ds → looks (o.fz ρ) os = some ds
  | [], _, e => e
  | o1 :: os, ds, e => by
    unfold looks at e ⊢
    split at e
    · rename_i x xs e1 e2
      rw [ofz_look e1, looks_fz e2]
      exact e
    · cases e
/-- all operands become data that stay -/
theorem fzs_er {P : Pm} {H : Hp} {σ : L2.St} : ∀ {os : List O} {vs : List V} {ds : List D} {Hs : Hp} {ρ : S}, ER P Hs H σ ρ → ROs P Hs σ vs os → looks ρ os = some ds → ∃ Hs', Same Hs Hs' ∧ ER P Hs' H σ (fzs ρ os) ∧ RpL P.K Hs' ds vs
  | [], _, _, Hs, ρ, E, h, e => by cases e; exact ⟨Hs, Same.refl _, E, h⟩
  | o :: os, _, ds, Hs, ρ, E, ⟨v, r, ev, h1, h2⟩, e => by
    have e0 := e
    unfold looks at e
    split at e
    · rename_i x xs e1 e2
      cases e
      obtain ⟨Hs1, g1, E1, q1⟩ := O.er E h1 e1
      obtain ⟨Hs2, g2, E2, q2⟩ := fzs_er E1 (h2.mono g1) (looks_fz e2)
      exact ⟨Hs2, g1.trans g2, E2, v, r, ev, Rp.mono g2 _ _ q1, q2⟩
    · cases e
theorem je_tup {k : Nat} (h : JA X dk es t) : JE X dk (.Tuple es k pos) (wTup t) := fun P fit => pe_weak (pe_tup (h P fit)) fun σ H Q ⟨τ, Hs, ρ, R, E, q, k⟩ => ⟨τ, Hs, ρ, _, E, q, fun Hs1 H1 ρ1 vs os g1 E1 q1 ⟨ds, e1, hl, hR⟩ => by
  obtain ⟨Hs2, g2, E2, q2⟩ := fzs_er E1 q1 e1
  refine ⟨by rw [← q2.length]; exact hl, fun p hp => ?_⟩
  obtain ⟨Hs3, g3, E3, q3⟩ := NR.er E2 (.nt hp q2)
  exact k Hs3 _ _ _ _ ((g1.trans g2).trans g3) E3 q3 hR⟩
theorem je_lst (h : JA X dk es t) : JE X dk (.List es pos) (wLst t) := fun P fit => pe_weak (pe_lst (h P fit)) fun σ H Q ⟨τ, Hs, ρ, R, E, q, k⟩ => ⟨τ, Hs, ρ, _, E, q, fun Hs1 H1 ρ1 vs os g1 E1 q1 ⟨ds, e1, hl, hR⟩ => by
  obtain ⟨Hs2, g2, E2, q2⟩ := fzs_er E1 q1 e1
  refine ⟨by rw [← q2.length]; exact hl, fun p hp => ?_⟩
  obtain ⟨Hs3, g3, E3, q3⟩ := NR.er E2 (.nl hp q2)
  exact k Hs3 _ _ _ _ ((g1.trans g2).trans g3) E3 q3 hR⟩
/-- an operation on arguments -/
theorem opN_go {P : Pm} {Hs H : Hp} {σ : L2.St} {ρ : S} {vs : List V} {os : List O} {ds : List D} {g : List V → Hp → VK → Prop} {f : FN} {R : Res → S → Prop} {Q : VK} (ho : OpN P.K g f) (E : ER P Hs H σ ρ) (q : ROs P Hs σ vs os) (e : looks ρ os = some ds) (hf : f ds fun z => R z ρ)
    (k : ∀ Hs' H' v r, Same Hs Hs' → ER P Hs' H' σ ρ → RR P Hs' H' σ ρ v r → R r ρ → Q v H') : g vs H Q :=
  ho E.sub E.sysH (looks_rt E q e) hf fun z res H' nr hR => by
    obtain ⟨Hs2, g2, E2, q2⟩ := nr.er E
    exact k Hs2 H' z res g2 E2 q2 hR
theorem je_fn {f : Value} {g : FN} (hf : Bfn X f g) (ha : JA X dk es t) (pe : ∀ r ta, CallR X f r → PA X es ta → PE X e (tCB r ta)) : JE X dk e (wN t g) := by
  obtain ⟨r, h1, h2⟩ := hf
  exact fun P fit => pe_weak (pe _ _ h1 (ha P fit)) fun σ H Q ⟨τ, Hs, ρ, R, E, q, k⟩ => ⟨τ, Hs, ρ, _, E, q, fun Hs1 H1 ρ1 vs os g1 E1 q1 ⟨ds, e1, hf⟩ =>
    opN_go (fit.K ▸ h2) E1 q1 e1 hf fun Hs' H' v r g E' => k Hs' H' ρ1 v r (g1.trans g) E'⟩
end
end Pz

set_option maxRecDepth 100000
set_option maxHeartbeats 4000000
/-! Pz, part 9: tests, choices, slices, calls. -/
namespace Pz
open PySem L2 PySem.Spec PyProof.Rows

/-- expressions whose test is their value's truth -/
def plainT : Expr → Bool
  | .Name .. => true
  | .Call .. => true
  | .Subscript .. => true
  | .BinOp .. => true
  | .IfExp .. => false
  | _ => false
theorem plainT_ok {a : Expr} (h : plainT a = true) (env : Env) : ∀ whole, isTrue a env whole = (do let v ← whole; standAt a.pos; holding [v] (truthy v)) := by
  cases a <;> first | (intro _; rfl) | (exact absurd h (by simp [plainT]))
theorem tru_of {K : PySem.W.Frag} {Hs H : Hp} {x : D} {v : V} {KK : Bool → Prop} (e : Same Hs H) (hx : Rt K Hs H x v) (h : tru x KK) : ∃ k, TruV K v H k ∧ KK k := by
  cases x with
  | non => cases (show v = _ from hx); exact ⟨_, rfl, h⟩
  | bl b => cases (show v = _ from hx); exact ⟨_, rfl, h⟩
  | int i => cases (show v = _ from hx); exact ⟨_, rfl, h⟩
  | str x => cases (show v = _ from hx); exact ⟨_, ⟨h.1, rfl⟩, h.2⟩
  | lst xs =>
    obtain ⟨a, vs, rfl, h1, h2⟩ := hx
    refine ⟨_, .inl ⟨vs, SqL.of h1, rfl⟩, ?_⟩
    have hl := h2.length
    cases xs <;> cases vs <;> first | exact h | simp at hl
  | tup xs =>
    obtain ⟨a, vs, rfl, h1, h2⟩ := hx
    refine ⟨_, .inr (.inl ⟨vs, same_t e h1, rfl⟩), ?_⟩
    have hl := h2.length
    cases xs <;> cases vs <;> first | exact h | simp at hl
  | dic ks xs =>
    obtain ⟨a, vs, rfl, h1, h3, h2⟩ := hx
    refine ⟨_, .inr (.inr ⟨_, h1, rfl⟩), ?_⟩
    have hl := h3.trans h2.length
    cases ks <;> cases vs <;> first | exact h | simp at hl
  | _ => exact h.elim

section
variable {X : Cx} {dk : Option (Addr × Addr)} {a b c e : Expr} {es rest : List Expr} {wa wb wc' : W} {t u : WT} {ta : WA} {pos : Pos}
theorem jt_tv (ha : JE X dk a wa) (he : plainT a = true) : JT X dk a (wtv wa) := fun P fit =>
  pt_weak (pt_truth (ha P fit) (plainT_ok he _)) fun σ H Q ⟨τ, Hs, ρ, R, E, q, k⟩ => ⟨τ, Hs, ρ, _, E, q, fun Hs1 H1 ρ1 v1 r1 g1 E1 q1 ⟨x, hx, ht⟩ => by
    obtain ⟨Hs2, g2, E2, q2⟩ := q1.fz E1
    obtain ⟨b, hb, hk⟩ := tru_of E2.sub (q2.rt E2 hx) ht
    rw [← fit.K]
    exact ⟨b, hb, k Hs2 H1 ρ1 b (g1.trans g2) E2 hk⟩⟩
/-- a comparison as a test -/
def wtCmp (a b : W) (f : F2) : WT := fun ρ K => a ρ fun r1 ρ1 => b ρ1 fun r2 ρ2 => ∃ x y, r1.fz.look ρ2 = some x ∧ r2.fz.look ρ2 = some y ∧ f x y fun z => ∃ k, z = .d (.bl k) ∧ K k ρ2
theorem jt_cmp {op : CmpOp} (hu : X.A.units + 64 < cLine) (ha : JE X dk a wa) (hb : JE X dk b wb) (hm : behindInMarks op b = false) : JT X dk (.Compare a [op] [b] pos) (wtCmp wa wb (fCmp op)) := fun P fit => by
  obtain ⟨r, h1, h2⟩ := bin_cmp hu op
  exact pt_weak (pt_cmpR h1 (ha P fit) (hb P fit) hm) fun σ H Q ⟨τ, Hs, ρ, R, E, q, k⟩ => ⟨τ, Hs, ρ, _, E, q, fun Hs1 H1 ρ1 v1 r1 g1 E1 q1 h1 => by
    obtain ⟨Hs1', g1', E1', q1'⟩ := q1.fz E1
    exact ⟨τ, Hs1', ρ1, _, E1', h1, fun Hs2 H2 ρ2 v2 r2 g2 E2 q2 ⟨x, y, hx, hy, hf⟩ =>
      op_go2 (R := fun z ρ2 => ∃ k, z = .d (.bl k) ∧ R k ρ2) (fit.K ▸ h2) q1' g2 E2 q2 hx hy hf fun Hs' H' v r g E' rr hR => by
        obtain ⟨kk, rfl, hk⟩ := hR
        cases (show v = _ from rr)
        exact ⟨kk, rfl, k Hs' H' ρ2 kk (((g1.trans g1').trans g2).trans g) E' hk⟩⟩⟩
theorem jt_not (ha : JT X dk a t) : JT X dk (.UnaryOp .Not a pos) (wtNot t) := fun P fit =>
  pt_weak (pt_not (ha P fit)) fun σ H Q ⟨τ, Hs, ρ, R, E, q, k⟩ => ⟨τ, Hs, ρ, _, E, q, fun Hs1 H1 ρ1 b g1 E1 h => k Hs1 H1 ρ1 _ g1 E1 h⟩
theorem jt_of (h : JW X dk a t) : JT X dk a t := fun P fit => (h P fit).pt
theorem jw_and1 (ha : JT X dk a t) : JW X dk (.BoolOp .And [a] pos) t := fun P fit => pw_and1 (ha P fit)
theorem jw_or1 (ha : JT X dk a t) : JW X dk (.BoolOp .Or [a] pos) t := fun P fit => pw_or1 (ha P fit)
theorem jw_and (ha : JT X dk a t) (hb : JW X dk (.BoolOp .And (b :: rest) pos) u) : JW X dk (.BoolOp .And (a :: b :: rest) pos) (wtAnd t u) := fun P fit =>
  pw_weak (pw_and (ha P fit) (hb P fit)) fun σ H Q ⟨τ, Hs, ρ, R, E, q, k⟩ => ⟨τ, Hs, ρ, _, E, q, fun Hs1 H1 ρ1 b g1 E1 h => by
    cases b with
    | true => exact ⟨τ, Hs1, ρ1, _, E1, h, fun Hs2 H2 ρ2 b g2 E2 h2 => k Hs2 H2 ρ2 b (g1.trans g2) E2 h2⟩
    | false => exact k Hs1 H1 ρ1 false g1 E1 h⟩
theorem jw_or (ha : JT X dk a t) (hb : JW X dk (.BoolOp .Or (b :: rest) pos) u) : JW X dk (.BoolOp .Or (a :: b :: rest) pos) (wtOr t u) := fun P fit =>
  pw_weak (pw_or (ha P fit) (hb P fit)) fun σ H Q ⟨τ, Hs, ρ, R, E, q, k⟩ => ⟨τ, Hs, ρ, _, E, q, fun Hs1 H1 ρ1 b g1 E1 h => by
    cases b with
    | true => exact k Hs1 H1 ρ1 true g1 E1 h
    | false => exact ⟨τ, Hs1, ρ1, _, E1, h, fun Hs2 H2 ρ2 b g2 E2 h2 => k Hs2 H2 ρ2 b (g1.trans g2) E2 h2⟩⟩
/-! .. as values -/
theorem je_one {op} (ha : JE X dk a wa) : JE X dk (.BoolOp op [a] pos) wa := fun P fit => pe_one (ha P fit)
theorem je_and (ha : JE X dk a wa) (hb : JE X dk (.BoolOp .And (b :: rest) pos) wb) : JE X dk (.BoolOp .And (a :: b :: rest) pos) (wAnd wa wb) := fun P fit =>
  pe_weak (pe_andT (ha P fit) (hb P fit)) fun σ H Q ⟨τ, Hs, ρ, R, E, q, k⟩ => ⟨τ, Hs, ρ, _, E, q, fun Hs1 H1 ρ1 v1 r1 g1 E1 q1 ⟨x, hx, ht⟩ => by
    obtain ⟨Hs2, g2, E2, q2⟩ := q1.fz E1
    obtain ⟨b, hb, hk⟩ := tru_of E2.sub (q2.rt E2 hx) ht
    rw [← fit.K]
    refine ⟨b, hb, ?_⟩
    cases b with
    | true => exact ⟨τ, Hs2, ρ1, _, E2, hk, fun Hs3 H3 ρ3 v3 r3 g3 E3 q3 h3 => k Hs3 H3 ρ3 v3 r3 ((g1.trans g2).trans g3) E3 q3 h3⟩
    | false =>
      obtain ⟨Hs3, g3, E3, q3⟩ := O.er E2 q2 hx
      exact k Hs3 H1 _ v1 (.d x) ((g1.trans g2).trans g3) E3 q3 hk⟩
theorem je_or (ha : JE X dk a wa) (hb : JE X dk (.BoolOp .Or (b :: rest) pos) wb) : JE X dk (.BoolOp .Or (a :: b :: rest) pos) (wOr wa wb) := fun P fit =>
  pe_weak (pe_orT (ha P fit) (hb P fit)) fun σ H Q ⟨τ, Hs, ρ, R, E, q, k⟩ => ⟨τ, Hs, ρ, _, E, q, fun Hs1 H1 ρ1 v1 r1 g1 E1 q1 ⟨x, hx, ht⟩ => by
    obtain ⟨Hs2, g2, E2, q2⟩ := q1.fz E1
    obtain ⟨b, hb, hk⟩ := tru_of E2.sub (q2.rt E2 hx) ht
    rw [← fit.K]
    refine ⟨b, hb, ?_⟩
    cases b with
    | false => exact ⟨τ, Hs2, ρ1, _, E2, hk, fun Hs3 H3 ρ3 v3 r3 g3 E3 q3 h3 => k Hs3 H3 ρ3 v3 r3 ((g1.trans g2).trans g3) E3 q3 h3⟩
    | true =>
      obtain ⟨Hs3, g3, E3, q3⟩ := O.er E2 q2 hx
      exact k Hs3 H1 _ v1 (.d x) ((g1.trans g2).trans g3) E3 q3 hk⟩
theorem je_not (ha : JE X dk a wa) : JE X dk (.UnaryOp .Not a pos) (wNot wa) := fun P fit =>
  pe_weak (pe_notT (ha P fit)) fun σ H Q ⟨τ, Hs, ρ, R, E, q, k⟩ => ⟨τ, Hs, ρ, _, E, q, fun Hs1 H1 ρ1 v1 r1 g1 E1 q1 ⟨x, hx, ht⟩ => by
    obtain ⟨Hs2, g2, E2, q2⟩ := q1.fz E1
    obtain ⟨b, hb, hk⟩ := tru_of E2.sub (q2.rt E2 hx) ht
    rw [← fit.K]
    exact ⟨b, hb, k Hs2 H1 ρ1 _ (.d (.bl (!b))) (g1.trans g2) E2 rfl hk⟩⟩
theorem je_if (hc : JT X dk c t) (ha : JE X dk a wa) (hb : JE X dk b wb) : JE X dk (.IfExp c a b pos) (wIf t wa wb) := fun P fit =>
  pe_weak (pe_ifExp (hc P fit) (ha P fit) (hb P fit)) fun σ H Q ⟨τ, Hs, ρ, R, E, q, k⟩ => ⟨τ, Hs, ρ, _, E, q, fun Hs1 H1 ρ1 b g1 E1 h => by
    cases b with
    | true => exact ⟨τ, Hs1, ρ1, _, E1, h, fun Hs3 H3 ρ3 v3 r3 g3 E3 q3 h3 => k Hs3 H3 ρ3 v3 r3 (g1.trans g3) E3 q3 h3⟩
    | false => exact ⟨τ, Hs1, ρ1, _, E1, h, fun Hs3 H3 ρ3 v3 r3 g3 E3 q3 h3 => k Hs3 H3 ρ3 v3 r3 (g1.trans g3) E3 q3 h3⟩⟩
/-- a op b op' c -/
theorem je_chain {op op' : CmpOp} (hu : X.A.units + 64 < cLine) (ha : JE X dk a wa) (hb : JE X dk b wb) (hc : JE X dk c wc') (hm : lastMarks [op, op'] [b, c] = false) : JE X dk (.Compare a [op, op'] [b, c] pos) (wChain wa wb wc' (fCmp op) (fCmp op')) := fun P fit => by
  obtain ⟨r, h1, h2⟩ := bin_cmp hu op
  obtain ⟨r', h1', h2'⟩ := bin_cmp hu op'
  exact pe_weak (pe_chain h1 h1' (ha P fit) (hb P fit) (hc P fit) hm) fun σ H Q ⟨τ, Hs, ρ, R, E, q, k⟩ => ⟨τ, Hs, ρ, _, E, q, fun Hs1 H1 ρ1 v1 r1 g1 E1 q1 h1 => by
    obtain ⟨Hs1', g1', E1', q1'⟩ := q1.fz E1
    refine ⟨τ, Hs1', ρ1, _, E1', h1, fun Hs2 H2 ρ2 v2 r2 g2 E2 q2 ⟨x, y, hx, hy, hf⟩ => ?_⟩
    obtain ⟨Hs2', g2', E2', q2'⟩ := q2.fz E2
    refine (fit.K ▸ h2 : Op2 P.K r _) E2'.sub E2'.sysH ((q1'.mono (g2.trans g2')).rt E2' hx) (q2'.rt E2' hy) hf fun z res H' nr hR => ?_
    obtain ⟨kk, rfl, hk⟩ := hR
    cases nr with
    | old rr =>
    cases (show z = _ from rr)
    refine ⟨kk, rfl, ?_⟩
    cases kk with
    | false => exact k Hs2' H2 ρ2 _ (.d (.bl false)) (((g1.trans g1').trans g2).trans g2') E2' rfl hk
    | true =>
      exact ⟨τ, Hs2', ρ2, _, E2', hk, fun Hs3 H3 ρ3 v3 r3 g3 E3 q3 ⟨y', u, hy', hu', hf'⟩ =>
        op_go2 (fit.K ▸ h2') q2' g3 E3 q3 hy' hu' hf' fun Hs' H' v r g E' => k Hs' H' ρ3 v r (((((g1.trans g1').trans g2).trans g2').trans g3).trans g) E'⟩⟩
/-- .. as a test -/
def wtChain (a b c : W) (f f' : F2) : WT := fun ρ K => wChain a b c f f' ρ fun r ρ' => ∃ k, r = .d (.bl k) ∧ K k ρ'
theorem jt_chain {op op' : CmpOp} (hu : X.A.units + 64 < cLine) (ha : JE X dk a wa) (hb : JE X dk b wb) (hc : JE X dk c wc') (hm : lastMarks [op, op'] [b, c] = false) : JT X dk (.Compare a [op, op'] [b, c] pos) (wtChain wa wb wc' (fCmp op) (fCmp op')) := fun P fit => by
  obtain ⟨r, h1, h2⟩ := bin_cmp hu op
  obtain ⟨r', h1', h2'⟩ := bin_cmp hu op'
  exact pt_weak (pt_chain h1 h1' (ha P fit) (hb P fit) (hc P fit) hm) fun σ H Q ⟨τ, Hs, ρ, R, E, q, k⟩ => ⟨τ, Hs, ρ, _, E, q, fun Hs1 H1 ρ1 v1 r1 g1 E1 q1 h1 => by
    obtain ⟨Hs1', g1', E1', q1'⟩ := q1.fz E1
    refine ⟨τ, Hs1', ρ1, _, E1', h1, fun Hs2 H2 ρ2 v2 r2 g2 E2 q2 ⟨x, y, hx, hy, hf⟩ => ?_⟩
    obtain ⟨Hs2', g2', E2', q2'⟩ := q2.fz E2
    refine (fit.K ▸ h2 : Op2 P.K r _) E2'.sub E2'.sysH ((q1'.mono (g2.trans g2')).rt E2' hx) (q2'.rt E2' hy) hf fun z res H' nr hR => ?_
    obtain ⟨kk, rfl, hk⟩ := hR
    cases nr with
    | old rr =>
    cases (show z = _ from rr)
    refine ⟨kk, rfl, ?_⟩
    cases kk with
    | false =>
      obtain ⟨j, ej, hj⟩ := hk
      cases ej
      exact ⟨false, rfl, k Hs2' H2 ρ2 _ (((g1.trans g1').trans g2).trans g2') E2' hj⟩
    | true =>
      exact ⟨τ, Hs2', ρ2, _, E2', hk, fun Hs3 H3 ρ3 v3 r3 g3 E3 q3 ⟨y', u, hy', hu', hf'⟩ =>
        op_go2 (R := fun z ρ2 => ∃ k, z = .d (.bl k) ∧ R k ρ2) (fit.K ▸ h2') q2' g3 E3 q3 hy' hu' hf' fun Hs' H' v r g E' rr ⟨j, ej, hj⟩ => by
          subst ej
          cases (show v = _ from rr)
          exact ⟨j, rfl, k Hs' H' ρ3 j (((((g1.trans g1').trans g2).trans g2').trans g3).trans g) E' hj⟩⟩⟩

/-! ### slices -/
abbrev WO := S → (Option Int → S → Prop) → Prop
def liftO (P : Pm) (w : WO) : TO := fun σ H Q => ∃ (τ : List V) (Hs : Hp) (ρ : S) (R : Option Int → S → Prop), ER P Hs H (σ ++ τ.map some) ρ ∧ w ρ R ∧ ∀ Hs' H' ρ' b, Same Hs Hs' → ER P Hs' H' (σ ++ τ.map some) ρ' → R b ρ' → Q b H'
def JO (X : Cx) (dk : Option (Addr × Addr)) (e : Option Expr) (w : WO) : Prop := ∀ P, Fit X dk P → PO X e (liftO P w)
theorem po_weak {X : Cx} {e : Option Expr} {t t' : TO} (h : PO X e t) (k : ∀ σ H Q, t' σ H Q → t σ H Q) : PO X e t' := ⟨fun pins s σ H Q I q => h.run pins s σ H Q I (k _ _ _ q)⟩
def woNo : WO := fun ρ R => R none ρ
def woE (a : W) : WO := fun ρ R => a ρ fun r ρ' => ∃ i, r = .d (.int i) ∧ R (some i) ρ'
theorem jo_no : JO X dk none woNo := fun P fit => po_weak po_none fun σ H Q ⟨τ, Hs, ρ, R, E, q, k⟩ => k Hs H ρ none (Same.refl _) E q
theorem jo_e (ha : JE X dk a wa) : JO X dk (some a) (woE wa) := fun P fit => po_weak (po_some (ha P fit)) fun σ H Q ⟨τ, Hs, ρ, R, E, q, k⟩ => ⟨τ, Hs, ρ, _, E, q, fun Hs1 H1 ρ1 v1 r1 g1 E1 q1 ⟨i, e, h⟩ => by
  subst e
  exact ⟨i, q1, k Hs1 H1 ρ1 (some i) g1 E1 h⟩⟩
def wSl (a : W) (lo hi : WO) : W := fun ρ R => a ρ fun r ρ1 => lo ρ1 fun l ρ2 => hi ρ2 fun u ρ3 => ∃ x, r.fz.look ρ3 = some x ∧ fSl x l u fun z => R z ρ3
theorem je_sl {lo hi : Option Expr} {wl wh : WO} {p2 : Pos} (ha : JE X dk a wa) (hl : JO X dk lo wl) (hh : JO X dk hi wh) : JE X dk (.Subscript a (.Slice lo hi none p2) pos) (wSl wa wl wh) := fun P fit =>
  pe_weak (pe_slice sl3 (ha P fit) (hl P fit) (hh P fit)) fun σ H Q ⟨τ, Hs, ρ, R, E, q, k⟩ => ⟨τ, Hs, ρ, _, E, q, fun Hs1 H1 ρ1 v1 r1 g1 E1 q1 h1 => by
    obtain ⟨Hs1', g1', E1', q1'⟩ := q1.fz E1
    exact ⟨τ, Hs1', ρ1, _, E1', h1, fun Hs2 H2 ρ2 l g2 E2 h2 => ⟨τ, Hs2, ρ2, _, E2, h2, fun Hs3 H3 ρ3 u g3 E3 ⟨x, hx, hf⟩ => by
      rw [← fit.K]
      refine sl_op E3.sub ((q1'.mono (g2.trans g3)).rt E3 hx) hf fun z res H' nr hR => ?_
      obtain ⟨Hs4, g4, E4, q4⟩ := nr.er E3
      exact k Hs4 H' ρ3 z res ((((g1.trans g1').trans g2).trans g3).trans g4) E4 q4 hR⟩⟩⟩
end

/-! ### calls of the module's defs -/
section
variable {Γ : Gam} {Sc : Sx} {X : Cx} {dk : Option (Addr × Addr)} {e : Expr} {es : List Expr} {t : WA} {pos p : Pos} {x : Str}
/-- behind a call -/
theorem call_back {P : Pm} {Hs Hs' H H' : Hp} {σ : L2.St} {ρ : S} {k : Nat} {v : V} {r : Res} (E : ER P Hs H σ ρ) (g : Same Hs Hs') (s : Same Hs' H') (kp : ∀ b o, H b = some o → ¬ inDk P.dk b → H' b = some o) (old : ∀ b, H b ≠ none → Hs b = none → Hs' b = none) (hd : Dk P.dk Hs' H' k)
    (rf : RF P.K Hs' H H' v r) : ER P Hs' H' σ { ρ with k := k } ∧ RR P Hs' H' σ { ρ with k := k } v r := by
  have E' := E.called g s kp old hd
  refine ⟨E', ?_⟩
  have h0 : ∀ a, H a = none → P.H0 a = none := fun a ha => by
    cases q : P.H0 a with
    | none => rfl
    | some u =>
      by_cases z : inDk P.dk a
      · obtain ⟨o, e⟩ := E.dk.there z; rw [ha] at e; cases e
      · have := E.keep a u q z; rw [ha] at this; cases this
  have hf : ∀ a, H a = none → Fresh σ { ρ with k := k } (.ref a) := fun a ha i x e hx hi => by
    obtain ⟨w, h1, h2⟩ := E.slot i x e
    rw [hi] at h1; cases h1
    obtain ⟨a', o', q1, _, _, q2⟩ := h2.ref hx
    cases q1
    rw [ha] at q2; cases q2
  cases r with
  | d x => exact rf
  | l xs => obtain ⟨a, vs, rfl, h1, h2, h3, h4⟩ := rf; exact ⟨⟨a, vs, rfl, h2, h0 a h1, h3, h4⟩, hf a h1⟩
  | m ks xs => obtain ⟨a, vs, rfl, h1, h2, h3, h5, h4⟩ := rf; exact ⟨⟨a, vs, rfl, h2, h0 a h1, h3, h5, h4⟩, hf a h1⟩
  | p i => exact rf.elim
theorem call_go {P : Pm} {i : FnI} {τ : List V} {Hs H : Hp} {σ : L2.St} {ρ : S} {vs : List V} {os : List O} {R : Res → S → Prop} {Q : VK} {E0 : XK} (E : ER P Hs H (σ ++ τ.map some) ρ) (q : ROs P Hs (σ ++ τ.map some) vs os)
    (h : ∃ ds, looks ρ os = some ds ∧ match i with
      | .pu pf => pf ds fun z => R z (fzs ρ os)
      | .dk pf => match P.dk, ds with
        | some (p, _), .cst (.ref q) :: es => p = q ∧ pf es ρ.k fun z k => R z { fzs ρ os with k := k }
        | _, _ => False)
    (k : ∀ Hs' H' ρ' v r, Same Hs Hs' → ER P Hs' H' (σ ++ τ.map some) ρ' → RR P Hs' H' (σ ++ τ.map some) ρ' v r → R r ρ' → Q v H') : i.sp P.K vs H Q E0 := by
  obtain ⟨ds, e1, h⟩ := h
  obtain ⟨Hs2, g2, E2, q2⟩ := fzs_er E q e1
  have kfz : (fzs ρ os).k = ρ.k := by
    have : ∀ (os : List O) (ρ : S), (fzs ρ os).k = ρ.k := by
      intro os
      induction os with
      | nil => intro ρ; rfl
      | cons o os ih =>
        intro ρ
        show (fzs (o.fz ρ) os).k = ρ.k
        rw [ih]
        cases o with
        | d x => rfl
        | p i => exact S.fz_k i
    exact this os ρ
  cases i with
  | pu pf =>
    refine ⟨Hs2, ds, fun z => R z (fzs ρ os), E2.sub, Sys.mono E2.grow E2.sys, q2, h, fun Hs' H' v r g s s' old rf hR => ?_⟩
    have hd : Dk P.dk Hs' H' (fzs ρ os).k := E2.dk.to (fun b hb => by
      obtain ⟨o, q⟩ := E2.dk.there hb
      exact old b (by rw [q]; exact fun z => by cases z) (E2.dk.nos hb)) fun b hb => by
      obtain ⟨o, q⟩ := E2.dk.there hb
      rw [q]; exact s' b o q
    obtain ⟨E3, q3⟩ := call_back E2 g s (fun b o e _ => s' b o e) old hd rf
    exact k Hs' H' _ v r (g2.trans g) E3 q3 hR
  | dk pf =>
    have hdk := E2.dk
    have hP : P.dk = P.dk := rfl
    revert h
    generalize hq : P.dk = dq at hP
    intro h
    match dq, ds, h with
    | some (p, c), .cst (.ref q') :: es, ⟨e, h⟩ =>
      subst e
      obtain ⟨v1, ws, rfl, r1, r2⟩ := q2
      cases (show v1 = _ from r1)
      rw [hq] at hdk
      refine ⟨p, c, ws, ρ.k, Hs2, es, fun z k => R z { fzs ρ os with k := k }, rfl, E2.sub, Sys.mono E2.grow E2.sys, by rw [← kfz]; exact hdk, r2, h, fun Hs' H' v r k' g s hd kp old rf hR => ?_⟩
      obtain ⟨E3, q3⟩ := call_back (k := k') E2 g s (fun b o e z => kp b o e (by rw [hq] at z; exact z)) old (by rw [hq]; exact hd) rf
      exact k Hs' H' _ v r (g2.trans g) E3 q3 hR
theorem je_call {i : FnI} (G : Good Γ Sc X) (h : Has Γ x i) (hg : Gl X x) (hdb : (x == ("__debug__" : Str)) = false) (ha : JA X dk (e :: es) t)
    (he : starEach (e :: es) X.env = (false, eval e X.env) :: starEach es X.env) (hpl : (backTo pos (starEach es X.env)).any (·.1) = false) : JE X dk (.Call (.Name x p) (e :: es) [] pos) (wCall dk i t) := fun P fit => by
  obtain ⟨f, fd, ps, k, hk, F, hm, hK, hb⟩ := Has.at G h
  refine pe_weak (pe_callZ (E := fun _ _ _ => False) (F.mono hk) G.gd G.room hg hm hK hb (fun _ _ _ _ _ _ _ z => z.elim) (ha P fit) hdb he hpl) fun σ H Q ⟨τ, Hs, ρ, R, E, q, kk⟩ => ⟨τ, Hs, ρ, _, E, q, fun Hs1 H1 ρ1 vs os g1 E1 q1 h1 => ?_⟩
  rw [← fit.K]
  refine call_go E1 q1 (by rw [fit.dk]; exact h1) fun Hs' H' ρ' v r g E' rr hR => kk Hs' H' ρ' v r (g1.trans g) E' rr hR
/-! ### .. by keywords -/
theorem RpL.pick {K : PySem.W.Frag} {H : Hp} {ds : List D} {vs : List V} (h : RpL K H ds vs) : ∀ π : List Nat, RpL K H (Pz.pick π ds) (Pz.pick π vs)
  | [] => rfl
  | i :: π => by
    have ih := RpL.pick h π
    unfold Pz.pick at ih ⊢
    by_cases hi : i < ds.length
    · obtain ⟨v, h1, h2⟩ := h.get (i := i) (d := ds[i]) (by simp [hi])
      rw [List.filterMap_cons_some (b := ds[i]) (by simp [hi]), List.filterMap_cons_some h1]
      exact ⟨v, _, rfl, h2, ih⟩
    · rw [List.filterMap_cons_none (by simp; omega), List.filterMap_cons_none (by have := h.length; simp; omega)]
      exact ih
theorem Vals.pick {vs : List V} {us : List Value} (h : Vals vs us) : ∀ π : List Nat, Vals (Pz.pick π vs) (Pz.pick π us)
  | [] => .nil
  | i :: π => by
    have ih := Vals.pick h π
    unfold Pz.pick at ih ⊢
    by_cases hi : i < vs.length
    · obtain ⟨u, h1, h2⟩ := h.get (x := vs[i]) (show vs[i]? = some vs[i] by simp [hi])
      rw [List.filterMap_cons_some (b := vs[i]) (by simp [hi]), List.filterMap_cons_some h1]
      exact .cons h2 ih
    · rw [List.filterMap_cons_none (by simp; omega), List.filterMap_cons_none (by have := h.length; simp; omega)]
      exact ih
def JK (X : Cx) (dk : Option (Addr × Addr)) (es : List Keyword) (w : WA) : Prop := ∀ P, Fit X dk P → PK X es (liftA P w)
theorem pk_weak {X : Cx} {es : List Keyword} {t t' : TA} (h : PK X es t) (k : ∀ σ H Q, t' σ H Q → t σ H Q) : PK X es t' := ⟨fun pos pins s σ H Q I q => h.run pos pins s σ H Q I (k _ _ _ q)⟩
theorem jk_nil : JK X dk [] waNil := fun P _ => pk_weak pk_nil fun σ H Q ⟨τ, Hs, ρ, R, E, q, k⟩ => k Hs H ρ [] [] (Same.refl _) E rfl q
theorem jk_cons {wa : W} {kws : List Keyword} {nm : Option Str} {kp : Pos} (ha : JE X dk e wa) (hr : JK X dk kws t) : JK X dk (⟨nm, e, kp⟩ :: kws) (waCons wa t) := fun P fit =>
  pk_weak (pk_cons (ha P fit) (hr P fit)) fun σ H Q ⟨τ, Hs, ρ, R, E, q, k⟩ => ⟨τ, Hs, ρ, _, E, q, fun Hs1 H1 ρ1 v1 r1 g1 E1 q1 h1 => by
    obtain ⟨Hs1', g1', E1', q1'⟩ := q1.fz E1
    exact ⟨τ, Hs1', ρ1, _, E1', h1, fun Hs2 H2 ρ2 vs os g2 E2 q2 h2 => k Hs2 H2 ρ2 (v1 :: vs) (r1.fz :: os) ((g1.trans g1').trans g2) E2 ⟨v1, vs, rfl, q1'.mono g2, q2⟩ h2⟩⟩
theorem kw_names {env : Env} {pos : Pos} : ∀ {kws : List Keyword} {ks : List Str}, kws.map (·.arg) = ks.map some → (backToKw pos (keywordEach kws env)).all (·.1.isSome) = true ∧ (backToKw pos (keywordEach kws env)).filterMap (·.1) = ks ∧ (backToKw pos (keywordEach kws env)).any (·.1.isNone) = false
  | [], [], _ => ⟨rfl, rfl, rfl⟩
  | k :: kws, n :: ks, h => by
    simp only [List.map_cons, List.cons.injEq] at h
    obtain ⟨i1, i2, i3⟩ := kw_names (env := env) (pos := pos) h.2
    cases k with
    | mk nm e p =>
      have h1 : nm = some n := h.1
      subst h1
      refine ⟨by simpa [backToKw, keywordEach] using i1, ?_, by simpa [backToKw, keywordEach] using i3⟩
      have e : backToKw pos (keywordEach (⟨some n, e, p⟩ :: kws) env) = (some n, do let v ← eval e env; standAt pos; pure v) :: backToKw pos (keywordEach kws env) := rfl
      rw [e]
      exact congrArg (n :: ·) i2
  | [], _ :: _, h => by simp at h
  | _ :: _, [], h => by simp at h
theorem je_kcall {i : FnI} {ks : List Str} {kws : List Keyword} (G : Good Γ Sc X) (h : HasK Γ x ks i) (hg : Gl X x) (hdb : (x == ("__debug__" : Str)) = false) (ha : JK X dk kws t) (hn : kws.map (·.arg) = ks.map some) : JE X dk (.Call (.Name x p) [] kws pos) (wCall dk i t) := fun P fit => by
  obtain ⟨f, fd, ps, k, pf, π, hk, F, hm, hK, hb, rfl⟩ := HasK.at G h
  obtain ⟨n1, n2, n3⟩ := kw_names (env := X.env) (pos := pos) hn
  have F' := F.mono hk
  refine ⟨fun pins s σ H Q I ⟨τ, Hs, ρ, R, E, q, kk⟩ => ?_⟩
  refine wpAny_Call_Name_kw (ld_glob I hg hm ?_ hdb)
  refine PySem.W.callWith_KW0 (h₀ := X.base) I.ok.mod.kin hK n1 ?_ (by rw [n3]; rfl)
  refine thn ((ha P fit).run pos pins s σ H (fun vs H1 => spP X.K (fun ds R => ds.length = ks.length ∧ pf (pick π ds) R) vs H1 Q fun _ _ _ => False) I ⟨τ, Hs, ρ, _, E, q, fun Hs1 H1 ρ1 vs os g1 E1 q1 h1 => ?_⟩) fun ws s1 ⟨vs, H1, I1, r, hsp⟩ => ⟨I1.kIn, ?_⟩
  · rw [← fit.K]
    exact call_go (i := .pu _) (E0 := fun _ _ _ => False) E1 q1 (by rw [fit.dk]; exact h1) fun Hs' H' ρ' v r g E' rr hR => kk Hs' H' ρ' v r (g1.trans g) E' rr hR
  · rw [n2]
    obtain ⟨Hs1, ds, R1, s1', sy, q1, ⟨hl, q2⟩, q3⟩ := hsp
    have hsp' : spP X.K pf (pick π vs) H1 Q fun _ _ _ => False := ⟨Hs1, pick π ds, R1, s1', sy, q1.pick π, q2, q3⟩
    have hwl : ws.length = ks.length := by rw [← r.length, ← q1.length]; exact hl
    refine wpAny_call (codeAny_mono (F'.run X.A X.stack s1 H1 ⟨[], ks.zip ws⟩ (pick π ws) (pick π vs) Q _ G.gd G.room I1.env0 (hb s1 ws I1.kIn hwl) (Vals.pick r π) hsp') fun res s' hq => ?_)
    match res, hq with
    | .error e, hq => exact hq.elim
    | .ok (.ret u), hq => exact I1.after hq
    | .ok .next, hq => exact hq.elim
    | .ok .brk, hq => exact hq.elim
    | .ok .cont, hq => exact hq.elim
end
end Pz

set_option maxRecDepth 100000
set_option maxHeartbeats 4000000
/-! Pz, part 10: targets, walks, comprehensions. -/
namespace Pz
open PySem L2 PySem.Spec PyProof.Rows

theorem pe_weakL {X : Cx} {e : Expr} {t t' : TE} (h : PE X e t) (k : ∀ σ H Q, σ.length = X.N.length → t' σ H Q → t σ H Q) : PE X e t' := ⟨fun pins s σ H Q I q => h.run pins s σ H Q I (k _ _ _ I.len q)⟩
theorem ps_weakL {X : Cx} {st : Stmt} {t t' : TS} (h : PS X st t) (k : ∀ D σ H, σ.length = X.N.length → t' D σ H → t D σ H) : PS X st t' := ⟨fun pins s σ H D I q => h.run pins s σ H D I (k _ _ _ I.len q)⟩

/-! ### one more object is held as it is -/
def Pm.hold (P : Pm) (a : Addr) (o : HO) : Pm := { P with H0 := upd P.H0 a o }
theorem hold_of {P : Pm} {Hs H : Hp} {σ : L2.St} {ρ : S} {a : Addr} {o : HO} (E : ER P Hs H σ ρ) (hs : Hs a = none) (h0 : P.H0 a = none) (ha : H a = some o) (hf : Fresh σ ρ (.ref a)) : ER (P.hold a o) Hs H σ ρ where
  sub := E.sub
  grow := E.grow
  keep := fun b u e n => by
    by_cases z : b = a
    · subst z
      rw [show (P.hold b o).H0 b = some o from upd_same] at e
      cases e; exact ha
    · exact E.keep b u (by rwa [show (P.hold a o).H0 b = P.H0 b from upd_ne z] at e) n
  old := fun b h1 h2 => by
    by_cases z : b = a
    · subst z; exact hs
    · exact E.old b (by rwa [show (P.hold a o).H0 b = P.H0 b from upd_ne z] at h1) h2
  dk := E.dk
  dkin := fun b hb => by
    by_cases z : b = a
    · subst z; exact absurd h0 (E.dkin b hb)
    · rw [show (P.hold a o).H0 b = P.H0 b from upd_ne z]; exact E.dkin b hb
  len := E.len
  slot := fun i x e => by
    obtain ⟨v, h1, h2⟩ := E.slot i x e
    refine ⟨v, h1, ?_⟩
    have key : ∀ b, x.own = true → v = .ref b → P.H0 b = none → (P.hold a o).H0 b = none := fun b hx hv q => by
      have z : b ≠ a := fun z => hf i x e hx (by rw [h1, hv, z])
      rw [show (P.hold a o).H0 b = P.H0 b from upd_ne z]; exact q
    cases x with
    | d x => exact h2
    | l xs => obtain ⟨b, vs, rfl, q1, q2, q3⟩ := h2; exact ⟨b, vs, rfl, q1, key b rfl rfl q2, q3⟩
    | m ks xs => obtain ⟨b, vs, rfl, q1, q2, q3⟩ := h2; exact ⟨b, vs, rfl, q1, key b rfl rfl q2, q3⟩
  apart := E.apart
  sys := E.sys
section
variable {P : Pm} {Hs H : Hp} {σ : L2.St} {ρ : S} {a : Addr} {o : HO}
theorem hold_none {b : Addr} (h0 : P.H0 a = none) (h : (P.hold a o).H0 b = none) : b ≠ a ∧ P.H0 b = none := by
  by_cases z : b = a
  · subst z; rw [show (P.hold b o).H0 b = some o from upd_same] at h; cases h
  · exact ⟨z, by rwa [show (P.hold a o).H0 b = P.H0 b from upd_ne z] at h⟩
theorem hold_own {x : B} {v : V} (h0 : P.H0 a = none) (h : Own (P.hold a o) Hs H x v) : Own P Hs H x v ∧ (x.own = true → v ≠ .ref a) := by
  cases x with
  | d x => exact ⟨h, fun z => by cases z⟩
  | l xs => obtain ⟨b, vs, rfl, q1, q2, q3⟩ := h; obtain ⟨n, q⟩ := hold_none h0 q2; exact ⟨⟨b, vs, rfl, q1, q, q3⟩, fun _ z => n (V.ref.inj z)⟩
  | m ks xs => obtain ⟨b, vs, rfl, q1, q2, q3⟩ := h; obtain ⟨n, q⟩ := hold_none h0 q2; exact ⟨⟨b, vs, rfl, q1, q, q3⟩, fun _ z => n (V.ref.inj z)⟩
theorem hold_back (E : ER (P.hold a o) Hs H σ ρ) (h0 : P.H0 a = none) (hs0 : P.Hs0 a = none) (nd : ¬ inDk P.dk a) : ER P Hs H σ ρ ∧ H a = some o ∧ Hs a = none ∧ Fresh σ ρ (.ref a) := by
  have lift0 : ∀ b u, P.H0 b = some u → (P.hold a o).H0 b = some u := fun b u e => by
    rw [show (P.hold a o).H0 b = P.H0 b from upd_ne fun z => by rw [z, h0] at e; cases e]; exact e
  refine ⟨⟨E.sub, E.grow, fun b u e n => E.keep b u (lift0 b u e) n, fun b h1 h2 => E.old b ?_ h2, E.dk, fun b hb => ?_, E.len, fun i x e => ?_, E.apart, E.sys⟩, E.keep a o upd_same nd, E.old a (by rw [show (P.hold a o).H0 a = some o from upd_same]; exact fun z => by cases z) hs0, fun i x e hx hi => ?_⟩
  · cases q : P.H0 b with
    | none => exact absurd q h1
    | some u => rw [lift0 b u q]; exact fun z => by cases z
  · have := E.dkin b hb
    intro q
    exact this (by rw [show (P.hold a o).H0 b = P.H0 b from upd_ne fun z => nd (z ▸ hb)]; exact q)
  · obtain ⟨v, h1, h2⟩ := E.slot i x e
    exact ⟨v, h1, (hold_own h0 h2).1⟩
  · obtain ⟨v, h1, h2⟩ := E.slot i x e
    rw [hi] at h1; cases h1
    exact (hold_own h0 h2).2 hx rfl
theorem hold_rr {v : V} {r : Res} (h0 : P.H0 a = none) (h : RR (P.hold a o) Hs H σ ρ v r) : RR P Hs H σ ρ v r := by
  cases r with
  | d x => exact h
  | l xs => exact ⟨(hold_own (x := .l xs) h0 h.1).1, h.2⟩
  | m ks xs => exact ⟨(hold_own (x := .m ks xs) h0 h.1).1, h.2⟩
  | p i => exact h
/-- an object that no slot has, changed -/
theorem ER.upd1 {u : HO} (E : ER P Hs H σ ρ) (hs : Hs a = none) (h0 : P.H0 a = none) (hf : Fresh σ ρ (.ref a)) : ER P Hs (upd H a u) σ ρ where
  sub := fun b x e => by rw [upd_ne (ne_of_none e hs)]; exact E.sub b x e
  grow := E.grow
  keep := fun b x e n => by rw [upd_ne (ne_of_none e h0)]; exact E.keep b x e n
  old := E.old
  dk := E.dk.to (fun b hb => E.dk.nos hb) fun b hb => upd_ne fun z => E.dkin b hb (z ▸ h0)
  dkin := E.dkin
  len := E.len
  slot := fun i x e => by
    obtain ⟨v, h1, h2⟩ := E.slot i x e
    refine ⟨v, h1, ?_⟩
    cases x with
    | d x => exact h2
    | l xs =>
      obtain ⟨b, vs, rfl, q2, q3, q4, q5⟩ := h2
      exact ⟨b, vs, rfl, q2, q3, by rw [upd_ne fun z => hf i _ e rfl (by rw [h1, z])]; exact q4, q5⟩
    | m ks xs =>
      obtain ⟨b, vs, rfl, q2, q3, q4, q6, q5⟩ := h2
      exact ⟨b, vs, rfl, q2, q3, by rw [upd_ne fun z => hf i _ e rfl (by rw [h1, z])]; exact q4, q6, q5⟩
  apart := E.apart
  sys := E.sys
end

/-! ### targets -/
abbrev WG := D → S → Option S
inductive Tg where
  | nm (i : Nat)
  | tup (ts : List Tg)
mutual
def Tg.set : Tg → WG
  | .nm i, x, ρ => some (ρ.set i (.d x))
  | .tup ts, .tup ds, ρ => Tg.sets ts ds ρ
  | .tup ts, .lst ds, ρ => Tg.sets ts ds ρ
  | .tup _, _, _ => none
def Tg.sets : List Tg → List D → S → Option S
  | [], [], ρ => some ρ
  | t :: ts, d :: ds, ρ => match t.set d ρ with
    | some ρ' => Tg.sets ts ds ρ'
    | none => none
  | _, _, _ => none
end
mutual
def Tg.ixs : Tg → List Nat
  | .nm i => [i]
  | .tup ts => Tg.ixsL ts
def Tg.ixsL : List Tg → List Nat
  | [] => []
  | t :: ts => t.ixs ++ Tg.ixsL ts
end
/-- a target stores data into the slots ws -/
def liftG (P : Pm) (ws : List Nat) (w : WG) : TG := fun v σ H Q => ∃ (τ : List V) (Hs : Hp) (ρ : S) (x : D) (ρ' : S), ER P Hs H (σ ++ τ.map some) ρ ∧ Rp P.K Hs x v ∧ w x ρ = some ρ' ∧
  ∀ σ' : L2.St, σ'.length = σ.length → (∀ j, j ∉ ws → σ'[j]? = σ[j]?) → ER P Hs H (σ' ++ τ.map some) ρ' → Q σ' H
def liftGs (P : Pm) (ws : List Nat) (w : List D → S → Option S) : TGs := fun vs σ H Q => ∃ (τ : List V) (Hs : Hp) (ρ : S) (xs : List D) (ρ' : S), ER P Hs H (σ ++ τ.map some) ρ ∧ RpL P.K Hs xs vs ∧ w xs ρ = some ρ' ∧
  ∀ σ' : L2.St, σ'.length = σ.length → (∀ j, j ∉ ws → σ'[j]? = σ[j]?) → ER P Hs H (σ' ++ τ.map some) ρ' → Q σ' H
def JG (X : Cx) (dk : Option (Addr × Addr)) (tg : Expr) (ws : List Nat) (w : WG) : Prop := ∀ P, Fit X dk P → PG X tg (liftG P ws w)
def JGs (X : Cx) (dk : Option (Addr × Addr)) (tg : List Expr) (ws : List Nat) (w : List D → S → Option S) : Prop := ∀ P, Fit X dk P → PGs X tg (liftGs P ws w)
section
variable {X : Cx} {dk : Option (Addr × Addr)} {e : Expr} {es : List Expr} {pos : Pos}
theorem app_set {σ : L2.St} {τ : List V} {i : Nat} {v : V} (hi : i < σ.length) : (σ ++ τ.map some).set i (some v) = σ.set i (some v) ++ τ.map some := by rw [List.set_append_left _ _ hi]
theorem jg_nm {i : Nat} {x : Str} (hN : X.N.Nodup) (hi : X.N[i]? = some x) (hx : Loc X.env.scope x) (hf : X.fn x = true ∨ X.env.scope.names.lookup x = some .local) : JG X dk (.Name x pos) [i] (Tg.nm i).set := fun P fit => by
  refine ⟨fun pins s σ H v u Q I r ⟨τ, Hs, ρ, d, ρ', E, hd, hw, k⟩ => ?_⟩
  refine (pg_name hN hi hx hf).run pins s σ H v u Q I r ?_
  have hl : i < σ.length := by rw [I.len]; exact (List.getElem?_eq_some_iff.mp hi).1
  simp only [Tg.set] at hw
  cases hw
  refine k _ (by simp) (fun j hj => List.getElem?_set_ne fun z => hj (by simp [z])) ?_
  rw [← app_set hl]
  exact E.set (by rw [← E.len]; simp; omega) hd fun z => by cases z
theorem PG.or {X : Cx} {tg : Expr} {t t' : TG} (h : PG X tg t) (h' : PG X tg t') : PG X tg (fun v σ H Q => t v σ H Q ∨ t' v σ H Q) := ⟨fun pins s σ H v u Q I r q => by
  rcases q with q | q
  · exact h.run pins s σ H v u Q I r q
  · exact h'.run pins s σ H v u Q I r q⟩
theorem pg_weak {X : Cx} {tg : Expr} {t t' : TG} (h : PG X tg t) (k : ∀ v σ H Q, t' v σ H Q → t v σ H Q) : PG X tg t' := ⟨fun pins s σ H v u Q I r q => h.run pins s σ H v u Q I r (k _ _ _ _ q)⟩
theorem pgs_weak {X : Cx} {tg : List Expr} {t t' : TGs} (h : PGs X tg t) (k : ∀ v σ H Q, t' v σ H Q → t v σ H Q) : PGs X tg t' := ⟨fun pins s σ H v u Q I r q => h.run pins s σ H v u Q I r (k _ _ _ _ q)⟩
theorem jgs_nil : JGs X dk [] [] (Tg.sets []) := fun P fit => pgs_weak pgs_nil fun vs σ H Q ⟨τ, Hs, ρ, ds, ρ', E, hd, hw, k⟩ => by
  cases ds with
  | nil =>
    simp only [Tg.sets] at hw
    cases hw
    cases (show vs = [] from hd)
    exact ⟨rfl, k σ rfl (fun _ _ => rfl) E⟩
  | cons d ds => simp [Tg.sets] at hw
theorem jgs_cons {t : Tg} {ts : List Tg} (h1 : JG X dk e t.ixs t.set) (h2 : JGs X dk es (Tg.ixsL ts) (Tg.sets ts)) (hs : (assignEach (e :: es) X.env).map (·.2) = assign e X.env :: (assignEach es X.env).map (·.2)) : JGs X dk (e :: es) (Tg.ixsL (t :: ts)) (Tg.sets (t :: ts)) := fun P fit =>
  pgs_weak (pgs_cons (h1 P fit) (h2 P fit) hs) fun vs σ H Q ⟨τ, Hs, ρ, ds, ρ', E, hd, hw, k⟩ => by
    cases ds with
    | nil => simp [Tg.sets] at hw
    | cons d ds =>
      obtain ⟨v, r, rfl, r1, r2⟩ := hd
      simp only [Tg.sets] at hw
      split at hw
      · rename_i ρ1 e1
        refine ⟨v, r, rfl, τ, Hs, ρ, d, ρ1, E, r1, e1, fun σ1 l1 a1 E1 => ⟨τ, Hs, ρ1, ds, ρ', E1, r2, hw, fun σ2 l2 a2 E2 => k σ2 (l2.trans l1) (fun j hj => ?_) E2⟩⟩
        simp only [Tg.ixsL, List.mem_append, not_or] at hj
        rw [a2 j hj.2, a1 j hj.1]
      · cases hw
theorem jg_tup {ts : List Tg} {k : Nat} (hc : X.calm = true) (h : JGs X dk es (Tg.ixsL ts) (Tg.sets ts)) (hn : (assignEach es X.env).length = ts.length) (hst : (assignEach es X.env).findIdx? (·.1) = none) : JG X dk (.Tuple es k pos) (Tg.tup ts).ixs (Tg.tup ts).set := fun P fit => by
  refine pg_weak (Pz.PG.or (pg_tup hc (h P fit) hn hst) (pg_lst hc (h P fit) hn hst)) fun v σ H Q ⟨τ, Hs, ρ, x, ρ', E, hd, hw, k⟩ => ?_
  have len : ∀ (ts : List Tg) (ds : List D) (ρ ρ' : S), Tg.sets ts ds ρ = some ρ' → ds.length = ts.length := by
    intro ts
    induction ts with
    | nil => intro ds ρ ρ' e; cases ds <;> simp [Tg.sets] at e ⊢
    | cons t ts ih =>
      intro ds ρ ρ' e
      cases ds with
      | nil => simp [Tg.sets] at e
      | cons d ds =>
        simp only [Tg.sets] at e
        split at e
        · simp [ih _ _ _ e]
        · cases e
  cases x with
  | tup ds =>
    obtain ⟨a, vs, rfl, h1, h2⟩ := hd
    simp only [Tg.set] at hw
    rw [← fit.K]
    exact .inl ⟨a, vs, rfl, same_t E.sub h1, by rw [← h2.length]; exact len _ _ _ _ hw, τ, Hs, ρ, ds, ρ', E, h2, hw, fun σ' l a E' => k σ' l (fun j hj => a j (by simpa [Tg.ixs] using hj)) E'⟩
  | lst ds =>
    obtain ⟨a, vs, rfl, h1, h2⟩ := hd
    simp only [Tg.set] at hw
    rw [← fit.K]
    exact .inr ⟨a, vs, rfl, SqL.of (E.sub _ _ h1), by rw [← h2.length]; exact len _ _ _ _ hw, τ, Hs, ρ, ds, ρ', E, h2, hw, fun σ' l a E' => k σ' l (fun j hj => a j (by simpa [Tg.ixs] using hj)) E'⟩
  | _ => simp [Tg.set] at hw
end

/-! ### what is walked -/
abbrev WI := S → (List D → S → Prop) → Prop
structure JOk (P : Pm) (Hs : Hp) (xs : List D) (J : It) : Prop where
  go : ∀ i H, Same Hs H → i < xs.length → J.go i H
  stop : ∀ i H, Same Hs H → xs.length ≤ i → J.stop i H
  yld : ∀ i H x H' Hs', Same Hs H → Same Hs Hs' → Same Hs' H → i < xs.length → J.yld i H x H' → ∃ d, xs[i]? = some d ∧ NR P.K Hs' H x (.d d) H'
theorem JOk.mono {P : Pm} {Hs Hs' : Hp} {xs : List D} {J : It} (h : JOk P Hs xs J) (g : Same Hs Hs') : JOk P Hs' xs J :=
  ⟨fun i H s => h.go i H (g.trans s), fun i H s => h.stop i H (g.trans s), fun i H x H' Hs'' s s' s'' => h.yld i H x H' Hs'' (g.trans s) (g.trans s') s''⟩
def liftI (P : Pm) (w : WI) : TI := fun σ H R => ∃ (τ : List V) (Hs : Hp) (ρ : S) (K : List D → S → Prop), ER P Hs H (σ ++ τ.map some) ρ ∧ w ρ K ∧ ∀ Hs' H' ρ' xs J, Same Hs Hs' → ER P Hs' H' (σ ++ τ.map some) ρ' → JOk P Hs' xs J → K xs ρ' → R J H'
def JI (X : Cx) (dk : Option (Addr × Addr)) (tg e : Expr) (w : WI) : Prop := ∀ P, Fit X dk P → PI X tg e (liftI P w)
theorem pi_weak {X : Cx} {tg e : Expr} {t t' : TI} (h : PI X tg e t) (k : ∀ σ H Q, t' σ H Q → t σ H Q) : PI X tg e t' := ⟨fun pins s σ H Q I q => h.run pins s σ H Q I (k _ _ _ q)⟩
def wiSeq (a : W) : WI := fun ρ K => a ρ fun r ρ' => ∃ x, r.fz.look ρ' = some x ∧ match x with
  | .lst xs => K xs (r.fz.fz ρ')
  | .tup xs => K xs (r.fz.fz ρ')
  | .str x => K (x.cps.toList.map fun c => .str ⟨#[c]⟩) (r.fz.fz ρ')
  | _ => False
section
variable {P : Pm} {Hs : Hp} {K : PySem.W.Frag}
theorem jok_list {a : Addr} {xs : List D} {vs : List V} (h : Hs a = some (.lst vs)) (hr : RpL P.K Hs xs vs) : JOk P Hs xs (Itl P.K a) where
  go := fun i H s hi => ⟨vs, vs[i]'(by rw [← hr.length]; exact hi), SqL.of (s _ _ h), by simp⟩
  stop := fun i H s hi => ⟨vs, SqL.of (s _ _ h), by rw [← hr.length]; exact hi⟩
  yld := fun i H x H' Hs' s s' s'' hi y => by
    obtain ⟨e, y⟩ := y
    subst e
    obtain ⟨d, h1, h2⟩ := hr.getV (y vs (SqL.of (s _ _ h)))
    exact ⟨d, h1, .old (Rp.mono s' _ _ h2)⟩
theorem jok_tup {a : Addr} {xs : List D} {vs : List V} (h : SqT P.K Hs a vs) (hr : RpL P.K Hs xs vs) : JOk P Hs xs (Itt P.K a) where
  go := fun i H s hi => ⟨vs, vs[i]'(by rw [← hr.length]; exact hi), same_t s h, by simp⟩
  stop := fun i H s hi => ⟨vs, same_t s h, by rw [← hr.length]; exact hi⟩
  yld := fun i H x H' Hs' s s' s'' hi y => by
    obtain ⟨e, y⟩ := y
    subst e
    obtain ⟨d, h1, h2⟩ := hr.getV (y vs (same_t s h))
    exact ⟨d, h1, .old (Rp.mono s' _ _ h2)⟩
theorem jok_str {z : Str} : JOk P Hs (z.cps.toList.map fun c => .str ⟨#[c]⟩) (Its z) where
  go := fun i H s hi => by
    have : i < z.cps.size := by simpa using hi
    exact this
  stop := fun i H s hi => by
    have : z.cps.size ≤ i := by simpa using hi
    exact this
  yld := fun i H x H' Hs' s s' s'' hi y => by
    obtain ⟨e, c, hc, rfl⟩ := y
    subst e
    exact ⟨.str ⟨#[c]⟩, by simp [hc], .old rfl⟩
def rngL (lo : Int) (n : Nat) : List D := (List.range n).map fun i => D.int (lo + (i : Nat))
theorem jok_rng {lo : Int} {n : Nat} : JOk P Hs (rngL lo n) (Itr lo n) where
  go := fun i H s hi => by simpa [rngL, Itr] using hi
  stop := fun i H s hi => by simpa [rngL, Itr] using hi
  yld := fun i H x H' Hs' s s' s'' hi y => by
    obtain ⟨e, rfl⟩ := y
    subst e
    have hi' : i < n := by simpa [rngL] using hi
    exact ⟨.int (lo + i), by simp [rngL, hi'], .old rfl⟩
end
section
variable {Γ : Gam} {Sc : Sx} {X : Cx} {dk : Option (Addr × Addr)} {tg e : Expr} {es : List Expr} {pos p : Pos} {wa : W} {t : WA}
theorem pi_any {l : Expr} {tl : TE} (hl : PE X l tl) : PI X tg l (fun σ H R => tl σ H fun x H1 => (∃ a, x = .ref a ∧ (∃ xs, SqL X.K H1 a xs) ∧ R (Itl X.K a) H1) ∨ (∃ a, x = .ref a ∧ (∃ xs, SqT X.K H1 a xs) ∧ R (Itt X.K a) H1) ∨ ∃ z, x = .str z ∧ R (Its z) H1) := by
  refine ⟨fun pins s σ H R I h => ?_⟩
  refine thn (hl.run pins s σ H _ I h) fun v s1 ⟨x, H1, I1, r1, q1⟩ => ?_
  rcases q1 with ⟨a, e, ⟨xs, hq⟩, q⟩ | ⟨a, e, ⟨xs, hq⟩, q⟩ | ⟨z, e, q⟩
  · subst e
    cases r1
    obtain ⟨its, rv, p, hz⟩ := I1.list hq
    refine wpAny_pyIter_list p.isList ?_
    refine ⟨s1.heap.objs.size, [s1.heap.objs.size], _, _, H1, rfl, I1.kept (t' := s1.toks) fun b o e => Heap.get?_push_of_some _ e, turn_list a _, ⟨_, Heap.get?_push_size _ rfl, rfl, rfl⟩, fun b hb => ?_, q⟩
    have e : b = s1.heap.objs.size := by simpa using hb
    subst e
    exact I1.fpOk (Nat.le_refl _) (I1.hok.fresh (Nat.le_refl _))
  · subst e
    cases r1
    obtain ⟨its, rv, p, hz⟩ := I1.tuple hq
    refine wpAny_pyIter_tuple (show s1.heap.IsTuple a its.toArray from p) ?_
    refine ⟨s1.heap.objs.size, [s1.heap.objs.size], _, _, H1, rfl, I1.kept (t' := s1.toks) fun b o e => Heap.get?_push_of_some _ e, turn_tuple a _, ⟨_, Heap.get?_push_size _ rfl, rfl, rfl⟩, fun b hb => ?_, q⟩
    have e : b = s1.heap.objs.size := by simpa using hb
    subst e
    exact I1.fpOk (Nat.le_refl _) (I1.hok.fresh (Nat.le_refl _))
  · subst e
    obtain ⟨t, rfl⟩ := r1
    cases ha : z.cps.all (· < 128)
    · exact wpAny_pyIter_wide ha (pi_one (tk := s1.toks) I1 _ (turn_str _ z t "str_iterator" (.inr rfl)) ⟨_, Heap.get?_push_size _ rfl, rfl, rfl⟩ q)
    · exact wpAny_pyIter_ascii ha (pi_one (tk := s1.toks) I1 _ (turn_str _ z t "str_ascii_iterator" (.inl rfl)) ⟨_, Heap.get?_push_size _ rfl, rfl, rfl⟩ q)
theorem ji_seq (ha : JE X dk e wa) : JI X dk tg e (wiSeq wa) := fun P fit =>
  pi_weak (pi_any (ha P fit)) fun σ H Q ⟨τ, Hs, ρ, K, E, q, k⟩ => ⟨τ, Hs, ρ, _, E, q, fun Hs1 H1 ρ1 v1 r1 g1 E1 q1 ⟨x, hx, hK⟩ => by
    obtain ⟨Hs2, g2, E2, q2⟩ := q1.fz E1
    obtain ⟨Hs3, g3, E3, q3⟩ := O.er E2 q2 hx
    rw [← fit.K]
    cases x with
    | lst xs =>
      obtain ⟨a, vs, rfl, h1, h2⟩ := q3
      exact .inl ⟨a, rfl, ⟨vs, SqL.of (E3.sub _ _ h1)⟩, k Hs3 H1 _ xs _ ((g1.trans g2).trans g3) E3 (jok_list h1 h2) hK⟩
    | tup xs =>
      obtain ⟨a, vs, rfl, h1, h2⟩ := q3
      exact .inr (.inl ⟨a, rfl, ⟨vs, same_t E3.sub h1⟩, k Hs3 H1 _ xs _ ((g1.trans g2).trans g3) E3 (jok_tup h1 h2) hK⟩)
    | str z =>
      cases (show v1 = _ from q3)
      exact .inr (.inr ⟨z, rfl, k Hs3 H1 _ _ _ ((g1.trans g2).trans g3) E3 jok_str hK⟩)
    | _ => exact hK.elim⟩
/-- range(j), range(i, j) -/
def wiRng1 (a : W) : WI := fun ρ K => a ρ fun r ρ' => ∃ j, r.fz = .d (.int j) ∧ (-(2 ^ 62) ≤ j ∧ j < 2 ^ 62) ∧ K (rngL 0 j.toNat) ρ'
def wiRng2 (a b : W) : WI := fun ρ K => a ρ fun r ρ1 => b ρ1 fun r2 ρ2 => ∃ i j, (r.fz = .d (.int i) ∧ r2.fz = .d (.int j)) ∧ (-(2 ^ 62) ≤ i ∧ i < 2 ^ 62 ∧ -(2 ^ 62) ≤ j ∧ j < 2 ^ 62) ∧ K (rngL i (j - i).toNat) ρ2
theorem ji_rng1 {a : Expr} (hg : Gl X "range") (hm : X.mg "range" = none) (ha : JE X dk a wa) (hs : starEach [a] X.env = (false, eval a X.env) :: starEach [] X.env) : JI X dk tg (.Call (.Name "range" p) [a] [] pos) (wiRng1 wa) := fun P fit =>
  pi_weak (pi_range1 hg hm ((ja_cons ha ja_nil hs) P fit) hs) fun σ H Q ⟨τ, Hs, ρ, K, E, q, k⟩ => ⟨τ, Hs, ρ, fun os ρ' => match os with
    | [o] => ∃ j, o = .d (.int j) ∧ (-(2 ^ 62) ≤ j ∧ j < 2 ^ 62) ∧ K (rngL 0 j.toNat) ρ'
    | _ => False, E, q, fun Hs1 H1 ρ1 vs os g1 E1 q1 h => by
    match os, h with
    | [o], ⟨j, ho, hj, hK⟩ =>
      subst ho
      obtain ⟨v, r, rfl, h1, h2⟩ := q1
      cases (show v = _ from h1)
      cases (show r = _ from h2)
      exact ⟨j, rfl, hj.1, hj.2, k Hs1 H1 ρ1 _ _ g1 E1 jok_rng hK⟩⟩
theorem ji_rng2 {a b : Expr} {wb : W} (hg : Gl X "range") (hm : X.mg "range" = none) (ha : JE X dk a wa) (hb : JE X dk b wb) (hs : starEach [a, b] X.env = (false, eval a X.env) :: starEach [b] X.env) (hs2 : starEach [b] X.env = (false, eval b X.env) :: starEach [] X.env) :
    JI X dk tg (.Call (.Name "range" p) [a, b] [] pos) (wiRng2 wa wb) := fun P fit =>
  pi_weak (pi_range2 hg hm ((ja_cons ha (ja_cons hb ja_nil hs2) hs) P fit) (by rw [hs, hs2]; rfl) hs2) fun σ H Q ⟨τ, Hs, ρ, K, E, q, k⟩ => ⟨τ, Hs, ρ, fun os ρ' => match os with
    | [o, o2] => ∃ i j, (o = .d (.int i) ∧ o2 = .d (.int j)) ∧ (-(2 ^ 62) ≤ i ∧ i < 2 ^ 62 ∧ -(2 ^ 62) ≤ j ∧ j < 2 ^ 62) ∧ K (rngL i (j - i).toNat) ρ'
    | _ => False, E, q, fun Hs1 H1 ρ1 vs os g1 E1 q1 h => by
    match os, h with
    | [o, o2], ⟨i, j, ⟨ho, ho2⟩, hj, hK⟩ =>
      subst ho ho2
      obtain ⟨v, r, rfl, h1, v2, r2, rfl, h2, h3⟩ := q1
      cases (show v = _ from h1)
      cases (show v2 = _ from h2)
      cases (show r2 = _ from h3)
      exact ⟨i, j, rfl, hj, k Hs1 H1 ρ1 _ _ g1 E1 jok_rng hK⟩⟩
/-- enumerate(list) -/
def enL (xs : List D) : List D := (List.range xs.length).zipWith (fun i x => D.tup [.int (i : Nat), x]) xs
def wiEnum (a : W) : WI := fun ρ K => a ρ fun r ρ' => ∃ xs, r.fz.look ρ' = some (.lst xs) ∧ K (enL xs) (r.fz.fz ρ')
theorem enL_get {xs : List D} {i : Nat} {d : D} (h : xs[i]? = some d) : (enL xs)[i]? = some (.tup [.int (i : Nat), d]) := by
  have hi := (List.getElem?_eq_some_iff.mp h).1
  simp [enL, List.getElem?_zipWith, List.getElem?_range, hi, h]
  exact Option.some.inj (by rw [← h]; simp [hi])
theorem ji_enum {elts : List Expr} {kk : Nat} {tpos : Pos} (hg : Gl X "enumerate") (hm : X.mg "enumerate" = none) (ha : JE X dk e wa) (hs : starEach [e] X.env = (false, eval e X.env) :: starEach [] X.env) : JI X dk (.Tuple elts kk tpos) (.Call (.Name "enumerate" p) [e] [] pos) (wiEnum wa) := fun P fit =>
  pi_weak (pi_enum hg hm ((ja_cons ha ja_nil hs) P fit) hs) fun σ H Q ⟨τ, Hs, ρ, K, E, q, k⟩ => ⟨τ, Hs, ρ, fun os ρ' => match os with
    | [o] => ∃ xs, o.look ρ' = some (.lst xs) ∧ K (enL xs) (o.fz ρ')
    | _ => False, E, q, fun Hs1 H1 ρ1 vs os g1 E1 q1 h => by
    match os, h with
    | [o], ⟨xs, ho, hK⟩ =>
      obtain ⟨v, r, rfl, h1, h2⟩ := q1
      cases (show r = _ from h2)
      obtain ⟨Hs3, g3, E3, a, vs, rfl, h3, h4⟩ := O.er E1 h1 ho
      rw [← fit.K]
      refine ⟨a, vs, rfl, SqL.of (E3.sub _ _ h3), k Hs3 H1 _ _ _ (g1.trans g3) E3 ⟨fun i H s hi => ?_, fun i H s hi => ?_, fun i H x H' Hs' s s' s'' hi y => ?_⟩ hK⟩
      · have hi' : i < vs.length := by rw [← h4.length]; simpa [enL] using hi
        exact ⟨vs, vs[i], SqL.of (s _ _ h3), by simp [hi']⟩
      · exact ⟨vs, SqL.of (s _ _ h3), by rw [← h4.length]; simpa [enL] using hi⟩
      · obtain ⟨T, x', rfl, hT, rfl, y⟩ := y
        obtain ⟨d, q1, q2⟩ := h4.getV (y vs (SqL.of (s _ _ h3)))
        exact ⟨_, enL_get q1, .nt hT ⟨_, _, rfl, rfl, _, _, rfl, Rp.mono s' _ _ q2, rfl⟩⟩⟩

/-! ### what a block forgets -/
theorem wipe_get {σ : L2.St} {j : Nat} : ∀ {vs : List Nat}, j ∉ vs → (wipe σ vs)[j]? = σ[j]?
  | [], _ => rfl
  | v :: vs, h => by
    simp only [List.mem_cons, not_or] at h
    show ((wipe σ vs).set v none)[j]? = _
    rw [List.getElem?_set_ne (Ne.symm h.1), wipe_get h.2]
theorem wipe_in {σ : L2.St} {j : Nat} : ∀ {vs : List Nat}, j ∈ vs → (wipe σ vs)[j]? = if j < σ.length then some none else none
  | [], h => by cases h
  | v :: vs, h => by
    show ((wipe σ vs).set v none)[j]? = _
    by_cases z : v = j
    · subst z
      by_cases hl : v < σ.length
      · rw [List.getElem?_set_self (by rw [wipe_length]; exact hl), if_pos hl]
      · rw [if_neg hl, List.getElem?_eq_none (by rw [List.length_set, wipe_length]; omega)]
    · rw [List.getElem?_set_ne z]
      exact wipe_in (by rcases List.mem_cons.mp h with e | e; exact absurd e.symm z; exact e)
theorem wipe_ext {σ σ2 : L2.St} {vs : List Nat} (hl : σ2.length = σ.length) (h : ∀ j, j ∉ vs → σ2[j]? = σ[j]?) : wipe σ2 vs = wipe σ vs := by
  refine List.ext_getElem? fun j => ?_
  by_cases hj : j ∈ vs
  · rw [wipe_in hj, wipe_in hj, hl]
  · rw [wipe_get hj, wipe_get hj, h j hj]
theorem wipe_app {σ : L2.St} {τ : List V} : ∀ {vs : List Nat}, (∀ v ∈ vs, v < σ.length) → wipe (σ ++ τ.map some) vs = wipe σ vs ++ τ.map some
  | [], _ => rfl
  | v :: vs, h => by
    show (wipe (σ ++ τ.map some) vs).set v none = _
    rw [wipe_app fun x hx => h x (List.mem_cons_of_mem _ hx)]
    show _ = (wipe σ vs).set v none ++ _
    rw [List.set_append_left _ _ (by rw [wipe_length]; exact h v List.mem_cons_self)]
/-- behind the block: its own names have what they had, if that was a datum -/
def S.back1 (ρ0 ρ : S) (v : Nat) : S := { ρ with v := ρ.v.set v (match ρ0.v[v]? with
  | some (some (.d x)) => some (.d x)
  | _ => none) }
def S.back (ρ0 ρ : S) : List Nat → S
  | [] => ρ
  | v :: vs => S.back1 ρ0 (S.back ρ0 ρ vs) v
theorem back_k {ρ0 ρ : S} : ∀ vs, (S.back ρ0 ρ vs).k = ρ.k
  | [] => rfl
  | v :: vs => back_k vs
theorem back_len {ρ0 ρ : S} : ∀ vs, (S.back ρ0 ρ vs).v.length = ρ.v.length
  | [] => rfl
  | v :: vs => by show ((S.back ρ0 ρ vs).v.set v _).length = _; rw [List.length_set, back_len vs]
theorem back_get {ρ0 ρ : S} {j : Nat} {x : B} : ∀ {vs : List Nat}, (S.back ρ0 ρ vs).v[j]? = some (some x) → (j ∉ vs ∧ ρ.v[j]? = some (some x)) ∨ ∃ d, x = .d d ∧ ρ0.v[j]? = some (some (.d d))
  | [], h => .inl ⟨by simp, h⟩
  | v :: vs, h => by
    have h : ((S.back ρ0 ρ vs).v.set v (match ρ0.v[v]? with
      | some (some (.d x)) => some (.d x)
      | _ => none))[j]? = some (some x) := h
    by_cases z : v = j
    · subst z
      by_cases hl : v < (S.back ρ0 ρ vs).v.length
      · rw [List.getElem?_set_self hl] at h
        have h := Option.some.inj h
        split at h
        · rename_i y e
          cases h
          exact .inr ⟨y, rfl, e⟩
        · cases h
      · rw [List.getElem?_eq_none (by simpa using hl)] at h; cases h
    · rw [List.getElem?_set_ne z] at h
      rcases back_get h with ⟨h1, h2⟩ | h
      · exact .inl ⟨by simp only [List.mem_cons, not_or]; exact ⟨fun e => z e.symm, h1⟩, h2⟩
      · exact .inr h
theorem ER.back {P : Pm} {Hs0 H0 Hs H : Hp} {σ σ2 : L2.St} {ρ0 ρ : S} {vs : List Nat} (E0 : ER P Hs0 H0 σ ρ0) (g : Same Hs0 Hs) (E : ER P Hs H σ2 ρ) (hl : σ2.length = σ.length) (h : ∀ j, j ∉ vs → σ2[j]? = σ[j]?) : ER P Hs H σ (ρ0.back ρ vs) where
  sub := E.sub
  grow := E.grow
  keep := E.keep
  old := E.old
  dk := by rw [back_k]; exact E.dk
  dkin := E.dkin
  len := by rw [back_len, ← E.len, hl]
  slot := fun i x e => by
    rcases back_get e with ⟨n, e⟩ | ⟨d, rfl, e⟩
    · obtain ⟨v, h1, h2⟩ := E.slot i x e
      exact ⟨v, by rw [← h i n]; exact h1, h2⟩
    · obtain ⟨v, h1, h2⟩ := E0.slot i (.d d) ‹_›
      exact ⟨v, h1, Rp.mono g _ _ h2⟩
  apart := fun i j x y v n e1 o1 e2 o2 => by
    rcases back_get e1 with ⟨n1, e1⟩ | ⟨d, rfl, e1⟩
    · rcases back_get e2 with ⟨n2, e2⟩ | ⟨d, rfl, e2⟩
      · rw [← h i n1, ← h j n2]; exact E.apart i j x y v n e1 o1 e2 o2
      · cases o2
    · cases o1
  sys := E.sys

/-! ### list comprehensions -/
def lcGo (g : WG) (vs : List Nat) (tt : WT) (te : W) : List D → List D → S → (Res → S → Prop) → Prop
  | [], acc, ρ, R => R (.l acc) ρ
  | x :: xs, acc, ρ, R => ∃ ρ', g x (ρ.uns vs) = some ρ' ∧ tt ρ' fun b ρ2 => if b = true then te ρ2 fun r ρ3 => ∃ d, r.fz.look ρ3 = some d ∧ acc.length < sizeLine ∧ lcGo g vs tt te xs (acc ++ [d]) (ρ.back (r.fz.fz ρ3) vs) R
      else lcGo g vs tt te xs acc (ρ.back ρ2 vs) R
def wLc (wi : WI) (g : WG) (vs : List Nat) (tt : WT) (te : W) : W := fun ρ R => wi ρ fun xs ρ1 => lcGo g vs tt te xs [] ρ1 R
def JTs (X : Cx) (dk : Option (Addr × Addr)) (es : List Expr) (w : WT) : Prop := ∀ P, Fit X dk P → PTs X es (liftT P w)
def wtYes : WT := fun ρ K => K true ρ
theorem pts_weak {X : Cx} {es : List Expr} {t t' : TT} (h : PTs X es t) (k : ∀ σ H Q, t' σ H Q → t σ H Q) : PTs X es t' := ⟨fun pins s σ H Q I q => h.run pins s σ H Q I (k _ _ _ q)⟩
theorem jts_nil : JTs X dk [] wtYes := fun P fit => pts_weak pts_nil fun σ H Q ⟨τ, Hs, ρ, K, E, q, k⟩ => k Hs H ρ true (Same.refl _) E q
theorem jts_one {w : WT} (h : JT X dk e w) : JTs X dk [e] w := fun P fit => pts_one (h P fit)
/-- .. with the parameters that the moment asks for -/
def liftX (K : PySem.W.Frag) (dk : Option (Addr × Addr)) (w : W) : TE := fun σ H Q => ∃ P : Pm, (P.K = K ∧ P.dk = dk) ∧ lift P w σ H Q
def liftTX (K : PySem.W.Frag) (dk : Option (Addr × Addr)) (w : WT) : TT := fun σ H Q => ∃ P : Pm, (P.K = K ∧ P.dk = dk) ∧ liftT P w σ H Q
def liftGX (K : PySem.W.Frag) (dk : Option (Addr × Addr)) (ws : List Nat) (w : WG) : TG := fun v σ H Q => ∃ P : Pm, (P.K = K ∧ P.dk = dk) ∧ liftG P ws w v σ H Q
theorem JE.any {w : W} (h : JE X dk e w) : PE X e (liftX X.K dk w) := ⟨fun pins s σ H Q I ⟨P, f, q⟩ => (h P ⟨f.1, f.2⟩).run pins s σ H Q I q⟩
theorem JTs.any {w : WT} (h : JTs X dk es w) : PTs X es (liftTX X.K dk w) := ⟨fun pins s σ H Q I ⟨P, f, q⟩ => (h P ⟨f.1, f.2⟩).run pins s σ H Q I q⟩
theorem JG.any {ws : List Nat} {w : WG} (h : JG X dk tg ws w) : PG X tg (liftGX X.K dk ws w) := ⟨fun pins s σ H v u Q I r ⟨P, f, q⟩ => (h P ⟨f.1, f.2⟩).run pins s σ H v u Q I r q⟩
theorem lc_lift {P : Pm} {wi : WI} {g : WG} {ws vs : List Nat} {tt : WT} {te : W} {σ : L2.St} {H : Hp} {Q : VK} (hv : ∀ v ∈ vs, v < σ.length) (hw : ∀ j ∈ ws, j ∈ vs) (h : lift P (wLc wi g vs tt te) σ H Q) :
    tLc (liftI P wi) (liftGX P.K P.dk ws g) (liftTX P.K P.dk tt) (liftX P.K P.dk te) vs σ H Q := by
  obtain ⟨τ, Hs, ρ, R, E, q, k⟩ := h
  refine ⟨τ, Hs, ρ, _, E, q, fun Hs1 H1 ρ1 xs J g1 E1 jok q1 => ?_⟩
  intro D hD
  obtain ⟨E2, hs, h0, hf⟩ := E1.new (o := .lst []) hD
  have hs0 : P.Hs0 D = none := Same.free E1.grow hs
  have nd : ¬ inDk P.dk D := fun z => E1.dkin D z h0
  refine ⟨fun i m H => m = xs.length - i ∧ i ≤ xs.length ∧ ∃ (Hs2 : Hp) (ρ2 : S) (acc : List Pz.D) (us : List V), Same Hs1 Hs2 ∧ ER P Hs2 H (σ ++ τ.map some) ρ2 ∧ H D = some (.lst us) ∧ Hs2 D = none ∧ Fresh (σ ++ τ.map some) ρ2 (.ref D) ∧ RpL P.K Hs2 acc us ∧ lcGo g vs tt te (xs.drop i) acc ρ2 R,
    ⟨_, rfl, Nat.zero_le _, Hs1, ρ1, [], [], Same.refl _, E2, upd_same, hs, hf, rfl, q1⟩, ?_⟩
  rintro i m H ⟨rfl, hi, Hs2, ρ2, acc, us, gs, E2, hHD, hsD, fD, hacc, go⟩
  by_cases hlt : i < xs.length
  · right
    refine ⟨jok.go i H (gs.trans E2.sub) hlt, fun H' => i + 1 ≤ xs.length ∧ ∃ (Hs2 : Hp) (ρ2 : S) (acc : List Pz.D) (us : List V), Same Hs1 Hs2 ∧ ER P Hs2 H' (σ ++ τ.map some) ρ2 ∧ H' D = some (.lst us) ∧ Hs2 D = none ∧ Fresh (σ ++ τ.map some) ρ2 (.ref D) ∧ RpL P.K Hs2 acc us ∧ lcGo g vs tt te (xs.drop (i + 1)) acc ρ2 R,
      fun H' hN => ⟨_, by omega, rfl, hN⟩, fun x H' y => ?_⟩
    obtain ⟨d, hd, nr⟩ := jok.yld i H x H' Hs2 (gs.trans E2.sub) gs E2.sub hlt y
    rw [List.drop_eq_getElem_cons hlt] at go
    have hd' : xs[i] = d := Option.some.inj (by rw [← hd]; simp [hlt])
    rw [hd'] at go
    obtain ⟨ρ3, hg, go⟩ := go
    -- D is held
    have EH := hold_of E2 hsD h0 hHD fD
    obtain ⟨Hs3, g3, E3, q3⟩ := NR.er (P := P.hold D (.lst us)) EH nr
    have E4 := E3.uns vs
    rw [wipe_app hv] at E4
    refine ⟨P.hold D (.lst us), ⟨rfl, rfl⟩, τ, Hs3, ρ2.uns vs, d, ρ3, E4, q3, hg, fun σ2 l2 a2 E5 => ?_⟩
    have l2' : σ2.length = σ.length := by rw [l2, wipe_length]
    have a2' : ∀ j, j ∉ vs → σ2[j]? = σ[j]? := fun j hj => by rw [a2 j fun z => hj (hw j z), wipe_get hj]
    have a3 : ∀ j, j ∉ vs → (σ2 ++ τ.map some)[j]? = (σ ++ τ.map some)[j]? := fun j hj => by
      by_cases hl : j < σ.length
      · rw [List.getElem?_append_left hl, List.getElem?_append_left (by omega), a2' j hj]
      · rw [List.getElem?_append_right (by omega), List.getElem?_append_right (by omega), l2']
    have l3 : (σ2 ++ τ.map some).length = (σ ++ τ.map some).length := by simp [l2']
    refine ⟨wipe_ext l2' a2', P.hold D (.lst us), ⟨rfl, rfl⟩, τ, Hs3, ρ3, _, E5, go, fun Hs4 H4 ρ4 b g4 E6 hb => ?_⟩
    cases b with
    | false =>
      have E7 := ER.back E3 g4 E6 l3 a3
      obtain ⟨E8, n1, n2, n3⟩ := hold_back E7 h0 hs0 nd
      exact ⟨hlt, Hs4, _, acc, us, (gs.trans g3).trans g4, E8, n1, n2, n3, RpL.mono (g3.trans g4) _ _ hacc, hb⟩
    | true =>
      refine ⟨P.hold D (.lst us), ⟨rfl, rfl⟩, τ, Hs4, ρ4, _, E6, hb, fun Hs5 H5 ρ5 v r g5 E7 qr ⟨dd, hl, hz, hgo⟩ => ?_⟩
      obtain ⟨Hs6, g6, E8, q8⟩ := qr.fz E7
      obtain ⟨Hs7, g7, E9, q9⟩ := O.er E8 q8 hl
      have gg := ((g4.trans g5).trans g6).trans g7
      have E10 := ER.back E3 gg E9 l3 a3
      obtain ⟨E11, n1, n2, n3⟩ := hold_back E10 h0 hs0 nd
      refine ⟨us, n1, by rw [← hacc.length]; exact hz, hlt, Hs7, _, acc ++ [dd], us ++ [v], (gs.trans g3).trans gg, E11.upd1 n2 h0 n3, upd_same, n2, n3, (RpL.mono (g3.trans gg) _ _ hacc).append (.cons q9 .nil), hgo⟩
  · have e : i = xs.length := by omega
    subst e
    left
    refine ⟨jok.stop _ H (gs.trans E2.sub) (Nat.le_refl _), ?_⟩
    rw [List.drop_length] at go
    exact k Hs2 H ρ2 _ (.l acc) (g1.trans gs) E2 ⟨⟨D, us, rfl, hsD, h0, hHD, hacc⟩, fD⟩ go
end
section
variable {Γ : Gam} {Sc : Sx} {X : Cx} {dk : Option (Addr × Addr)} {elt tg iter : Expr} {ifs : List Expr} {scope : Scope} {own : List (Str × Nat)} {pos : Pos} {wi : WI} {g : WG} {ws : List Nat} {tt : WT} {te : W}
/-- the scope of a comprehension's block -/
def Sx.blk (Sc : Sx) (scope : Scope) : Sx := ⟨Sc.N, relS scope Sc.sc, fun x => scope.names.lookup x == some .cell⟩
theorem Good.blk (G : Good Γ Sc X) (s : Shared) (H : Hp) (C : Addr) (cl : List (Str × Addr)) (fp : List Addr) : Good Γ (Sc.blk scope) (X.blk s H scope (compEnvC scope cl C X.env) fp) :=
  ⟨G.P, G.w, G.K, G.mg, G.base, G.N, by unfold Sx.blk; rw [← G.sc] <;> rfl, rfl, G.nd, G.calm, G.gd, G.room, PassesOwn.never⟩
theorem ix_lt {σ : L2.St} (ok : ∀ p ∈ own, X.N[p.2]? = some p.1) (hl : σ.length = X.N.length) : ∀ v ∈ own.map (·.2), v < σ.length := fun v hv => by
  obtain ⟨p, hp, rfl⟩ := List.mem_map.mp hv
  rw [hl]; exact (List.getElem?_eq_some_iff.mp (ok p hp)).1
theorem je_lc (G : Good Γ Sc X) (hi : JI X dk tg iter wi) (ok : BlkOk X.N X.env.scope scope own) (hw : ∀ j ∈ ws, j ∈ own.map (·.2))
    (hg : ∀ X', Good Γ (Sc.blk scope) X' → JG X' dk tg ws g) (ht : ∀ X', Good Γ (Sc.blk scope) X' → JTs X' dk ifs tt) (he : ∀ X', Good Γ (Sc.blk scope) X' → JE X' dk elt te)
    (hs : ∀ x, foldedSetIterable iter X.env x = pure x) : JE X dk (.ListComp elt [⟨tg, iter, ifs, 0⟩] scope pos) (wLc wi g (own.map (·.2)) tt te) := fun P fit =>
  pe_weakL (pe_lc G.calm (by rw [G.N]; exact G.nd) (hi P fit) ok (fun s H C cl fp => (hg _ (G.blk s H C cl fp)).any) (fun s H C cl fp => (ht _ (G.blk s H C cl fp)).any) (fun s H C cl fp => (he _ (G.blk s H C cl fp)).any) hs) fun σ H Q hl h => by
    have := lc_lift (ix_lt ok.ix hl) hw h
    rw [fit.K, fit.dk] at this
    exact this
end
end Pz

set_option maxRecDepth 100000
set_option maxHeartbeats 4000000
/-! Pz, part 11: statements. -/
namespace Pz
open PySem L2 PySem.Spec PyProof.Rows

def wNext : WS := fun ρ c => c.nx ρ
def wSeq (s t : WS) : WS := fun ρ c => s ρ { c with nx := fun ρ' => t ρ' c }
def wBrk : WS := fun ρ c => c.bk ρ
def wCnt : WS := fun ρ c => c.ct ρ
def wDrop (a : W) : WS := fun ρ c => a ρ fun _ ρ' => c.nx ρ'
def wRet (a : W) : WS := fun ρ c => a ρ fun r ρ' => c.rt r ρ'
def wIfS (t : WT) (a b : WS) : WS := fun ρ c => t ρ fun k ρ' => if k = true then a ρ' c else b ρ' c
def wSet (i : Nat) (a : W) : WS := fun ρ c => a ρ fun r ρ' => c.nx (ρ'.put i r)
/-- what is stored into a target of several names -/
def wUnp (g : WG) (a : W) : WS := fun ρ c => a ρ fun r ρ' => ∃ x ρ2, r.fz.look ρ' = some x ∧ g x (r.fz.fz ρ') = some ρ2 ∧ c.nx ρ2
/-- a result waits -/
def S.push (ρ : S) : Res → S
  | .d x => ⟨ρ.v ++ [some (.d x)], ρ.k⟩
  | .l xs => ⟨ρ.v ++ [some (.l xs)], ρ.k⟩
  | .m ks xs => ⟨ρ.v ++ [some (.m ks xs)], ρ.k⟩
  | .p i => match O.look ρ (.p i) with
    | some x => ⟨(ρ.fz i).v ++ [some (.d x)], ρ.k⟩
    | none => ⟨ρ.v ++ [none], ρ.k⟩
/-- the last that waits is stored -/
def S.mv (ρ : S) (i : Nat) : S := ⟨ρ.v.dropLast.set i (ρ.v.getLast?.getD none), ρ.k⟩
def S.mvs (ρ : S) : List Nat → S
  | [] => ρ
  | i :: is => (ρ.mv i).mvs is
def parGo : List W → (S → Prop) → S → Prop
  | [], K, ρ => K ρ
  | a :: as, K, ρ => a ρ fun r ρ' => parGo as K (ρ'.push r)
/-- a, b = x, y -/
def wPar (is : List Nat) (as : List W) : WS := fun ρ c => parGo as (fun ρ' => c.nx (ρ'.mvs is.reverse)) ρ
def forGo (g : WG) (b : WS) : List D → WS
  | [], ρ, c => c.nx ρ
  | x :: xs, ρ, c => ∃ ρ', g x ρ = some ρ' ∧ b ρ' { nx := fun ρ2 => forGo g b xs ρ2 c, ct := fun ρ2 => forGo g b xs ρ2 c, rt := c.rt, bk := c.nx }
def wFor (wi : WI) (g : WG) (b : WS) : WS := fun ρ c => wi ρ fun xs ρ1 => forGo g b xs ρ1 c
def wWhile (t : WT) (b : WS) : WS := fun ρ c => ∃ I : Nat → S → Prop, (∃ m, I m ρ) ∧ ∀ m ρ, I m ρ → t ρ fun k ρ' => if k = true then b ρ' { nx := fun ρ2 => ∃ m', m' < m ∧ I m' ρ2, ct := fun ρ2 => ∃ m', m' < m ∧ I m' ρ2, rt := c.rt, bk := c.nx } else c.nx ρ'

section
variable {Γ : Gam} {Sc : Sx} {X : Cx} {dk : Option (Addr × Addr)} {e tg iter cnd : Expr} {es : List Expr} {st : Stmt} {sts sts2 : List Stmt} {w u : WS} {wa : W} {wt : WT} {wi : WI} {g : WG} {ws : List Nat} {pos : Pos}
theorem nilτ {σ : L2.St} : σ ++ ([] : List V).map some = σ := by simp
/-- one part's end, the statement's -/
theorem js_nil : JSs X dk [] wNext := fun P fit => pss_weak pss_nil fun D σ H ⟨Hs, ρ, c, E, q, k1, k2, k3, k4⟩ => k1 σ Hs H ρ (Same.refl _) E q
theorem js_pass : JS X dk (.Pass pos) wNext := fun P fit => ps_weak ps_pass fun D σ H ⟨Hs, ρ, c, E, q, k1, k2, k3, k4⟩ => k1 σ Hs H ρ (Same.refl _) E q
theorem js_brk : JS X dk (.Break pos) wBrk := fun P fit => ps_weak ps_break fun D σ H ⟨Hs, ρ, c, E, q, k1, k2, k3, k4⟩ => k3 σ Hs H ρ (Same.refl _) E q
theorem js_cnt : JS X dk (.Continue pos) wCnt := fun P fit => ps_weak ps_continue fun D σ H ⟨Hs, ρ, c, E, q, k1, k2, k3, k4⟩ => k4 σ Hs H ρ (Same.refl _) E q
theorem js_cons (h1 : JS X dk st w) (h2 : JSs X dk sts u) : JSs X dk (st :: sts) (wSeq w u) := fun P fit =>
  pss_weak (pss_cons (h1 P fit) (h2 P fit)) fun D σ H ⟨Hs, ρ, c, E, q, k1, k2, k3, k4⟩ => ⟨Hs, ρ, _, E, q, fun σ' Hs' H' ρ' g' E' h => ⟨Hs', ρ', c, E', h, fun σ2 Hs2 H2 ρ2 g2 => k1 σ2 Hs2 H2 ρ2 (g'.trans g2), fun σ2 Hs2 H2 ρ2 v r g2 => k2 σ2 Hs2 H2 ρ2 v r (g'.trans g2), fun σ2 Hs2 H2 ρ2 g2 => k3 σ2 Hs2 H2 ρ2 (g'.trans g2), fun σ2 Hs2 H2 ρ2 g2 => k4 σ2 Hs2 H2 ρ2 (g'.trans g2)⟩, k2, k3, k4⟩
/-- an expression within a statement -/
theorem inE {P : Pm} {Hs H : Hp} {σ : L2.St} {ρ : S} {R : Res → S → Prop} {Q : VK} (E : ER P Hs H σ ρ) (q : wa ρ R) (k : ∀ Hs' H' ρ' v r, Same Hs Hs' → ER P Hs' H' σ ρ' → RR P Hs' H' σ ρ' v r → R r ρ' → Q v H') : lift P wa σ H Q :=
  ⟨[], Hs, ρ, R, by rw [nilτ]; exact E, q, fun Hs' H' ρ' v r g E' rr => by rw [nilτ] at E' rr; exact k Hs' H' ρ' v r g E' rr⟩
theorem inT {P : Pm} {Hs H : Hp} {σ : L2.St} {ρ : S} {R : Bool → S → Prop} {Q : Bool → Hp → Prop} (E : ER P Hs H σ ρ) (q : wt ρ R) (k : ∀ Hs' H' ρ' b, Same Hs Hs' → ER P Hs' H' σ ρ' → R b ρ' → Q b H') : liftT P wt σ H Q :=
  ⟨[], Hs, ρ, R, by rw [nilτ]; exact E, q, fun Hs' H' ρ' v g E' rr => by rw [nilτ] at E'; exact k Hs' H' ρ' v g E' rr⟩
theorem inA {P : Pm} {t : WA} {Hs H : Hp} {σ : L2.St} {ρ : S} {R : List O → S → Prop} {Q : List V → Hp → Prop} (E : ER P Hs H σ ρ) (q : t ρ R) (k : ∀ Hs' H' ρ' vs os, Same Hs Hs' → ER P Hs' H' σ ρ' → ROs P Hs' σ vs os → R os ρ' → Q vs H') : liftA P t σ H Q :=
  ⟨[], Hs, ρ, R, by rw [nilτ]; exact E, q, fun Hs' H' ρ' vs os g E' rr => by rw [nilτ] at E' rr; exact k Hs' H' ρ' vs os g E' rr⟩
theorem js_drop (ha : JE X dk e wa) (hs : swapsWith e none pos.line X.env = pure false) : JS X dk (.Expr e pos) (wDrop wa) := fun P fit =>
  ps_weak (ps_expr (ha P fit) hs) fun D σ H ⟨Hs, ρ, c, E, q, k1, k2, k3, k4⟩ => inE E q fun Hs' H' ρ' v r g E' rr h => k1 σ Hs' H' ρ' g E' h
theorem js_ret (ha : JE X dk e wa) : JS X dk (.Return (some e) pos) (wRet wa) := fun P fit =>
  ps_weak (ps_ret (ha P fit)) fun D σ H ⟨Hs, ρ, c, E, q, k1, k2, k3, k4⟩ => inE E q fun Hs' H' ρ' v r g E' rr h => k2 σ Hs' H' ρ' v r g E' rr h
theorem js_retN : JS X dk (.Return none pos) (wRet (wc .non)) := fun P fit =>
  ps_weak ps_retN fun D σ H ⟨Hs, ρ, c, E, q, k1, k2, k3, k4⟩ => k2 σ Hs H ρ .non (.d .non) (Same.refl _) E rfl q
theorem js_if (hc : JT X dk cnd wt) (ha : JSs X dk sts w) (hb : JSs X dk sts2 u) : JS X dk (.If cnd sts sts2 pos) (wIfS wt w u) := fun P fit =>
  ps_weak (ps_if (hc P fit) (ha P fit) (hb P fit)) fun D σ H ⟨Hs, ρ, c, E, q, k1, k2, k3, k4⟩ => inT E q fun Hs' H' ρ' b g' E' h => by
    have fin : ∀ {w : WS}, w ρ' c → liftS P w D σ H' := fun {w} h => ⟨Hs', ρ', c, E', h, fun σ2 Hs2 H2 ρ2 g2 => k1 σ2 Hs2 H2 ρ2 (g'.trans g2), fun σ2 Hs2 H2 ρ2 v r g2 => k2 σ2 Hs2 H2 ρ2 v r (g'.trans g2), fun σ2 Hs2 H2 ρ2 g2 => k3 σ2 Hs2 H2 ρ2 (g'.trans g2), fun σ2 Hs2 H2 ρ2 g2 => k4 σ2 Hs2 H2 ρ2 (g'.trans g2)⟩
    cases b with
    | true => exact fin h
    | false => exact fin h
/-- a name is bound, whatever its slot -/
theorem ER.putA {P : Pm} {Hs H : Hp} {σ : L2.St} {ρ : S} {v : V} {r : Res} {i : Nat} (E : ER P Hs H σ ρ) (h : RR P Hs H σ ρ v r) : ∃ Hs', Same Hs Hs' ∧ ER P Hs' H (σ.set i (some v)) (ρ.put i r) := by
  by_cases hi : i < ρ.v.length
  · exact E.put hi h
  · have e1 : σ.set i (some v) = σ := List.set_eq_of_length_le (by rw [E.len]; omega)
    rw [e1]
    have e2 : ∀ (ρ : S) b, ¬ i < ρ.v.length → ρ.set i b = ρ := fun ρ b hi => by
      unfold S.set; rw [List.set_eq_of_length_le (by omega)]
    cases r with
    | d x => exact ⟨Hs, Same.refl _, by rw [show ρ.put i (.d x) = ρ.set i (.d x) from rfl, e2 _ _ hi]; exact E⟩
    | l x => exact ⟨Hs, Same.refl _, by rw [show ρ.put i (.l x) = ρ.set i (.l x) from rfl, e2 _ _ hi]; exact E⟩
    | m ks x => exact ⟨Hs, Same.refl _, by rw [show ρ.put i (.m ks x) = ρ.set i (.m ks x) from rfl, e2 _ _ hi]; exact E⟩
    | p j =>
      obtain ⟨h1, b, h2, h3⟩ := h
      have hl : O.look ρ (.p j) = some b.dat := by simp only [O.look, h2]
      obtain ⟨Hs', g, E', q⟩ := E.fz h1 hl
      refine ⟨Hs', g, ?_⟩
      simp only [S.put, hl]
      rw [e2 _ _ (by rw [S.fz_len]; exact hi)]
      exact E'
theorem js_set {i : Nat} {x : Str} {pos' : Pos} (hN : X.N.Nodup) (hi : X.N[i]? = some x) (hx : Loc X.env.scope x) (ha : JE X dk e wa) (hs : swapsWith e (some (.Name x pos')) pos.line X.env = pure false) (hf : X.fn x = true ∨ X.env.scope.names.lookup x = some .local) :
    JS X dk (.Assign [.Name x pos'] e pos) (wSet i wa) := fun P fit =>
  ps_weak (ps_set hN hi hx (ha P fit) hs hf) fun D σ H ⟨Hs, ρ, c, E, q, k1, k2, k3, k4⟩ => inE E q fun Hs' H' ρ' v r g E' rr h => by
    obtain ⟨Hs2, g2, E2⟩ := E'.putA (i := i) rr
    exact k1 _ Hs2 H' _ (g.trans g2) E2 h
/-- several names -/
theorem js_unp (hg : JG X dk tg ws g) (ha : JE X dk e wa) (hs : swapsWithSole [tg] e pos.line X.env = pure false) (hw : swappedStores [tg] e X.env = pure none) (h1 : (assignEach [tg] X.env).map (·.2) = [assign tg X.env]) :
    JS X dk (.Assign [tg] e pos) (wUnp g wa) := fun P fit =>
  ps_weak (ps_asg (ha P fit) (hg P fit) hs hw h1) fun D σ H ⟨Hs, ρ, c, E, q, k1, k2, k3, k4⟩ => inE E q fun Hs' H' ρ' v r g E' rr ⟨x, ρ2, hl, hgs, h⟩ => by
    obtain ⟨Hs2, g2, E2, q2⟩ := rr.fz E'
    obtain ⟨Hs3, g3, E3, q3⟩ := O.er E2 q2 hl
    exact ⟨[], Hs3, _, x, ρ2, by rw [nilτ]; exact E3, q3, hgs, fun σ' l a E4 => k1 σ' Hs3 H' ρ2 ((g.trans g2).trans g3) (by rw [nilτ] at E4; exact E4) h⟩
theorem ER.pushB {P : Pm} {Hs H : Hp} {σ : L2.St} {ρ : S} {v : V} {b : B} (E : ER P Hs H σ ρ) (h : Own P Hs H b v) (hf : b.own = true → Fresh σ ρ v) : ER P Hs H (σ ++ [some v]) ⟨ρ.v ++ [some b], ρ.k⟩ where
  sub := E.sub
  grow := E.grow
  keep := E.keep
  old := E.old
  dk := E.dk
  dkin := E.dkin
  len := by simp [E.len]
  slot := fun i x e => by
    by_cases hi : i < ρ.v.length
    · have e : (ρ.v ++ [some b])[i]? = some (some x) := e
      rw [List.getElem?_append_left hi] at e
      obtain ⟨w, h1, h2⟩ := E.slot i x e
      exact ⟨w, by rw [List.getElem?_append_left (by rw [E.len]; exact hi)]; exact h1, h2⟩
    · have e : (ρ.v ++ [some b])[i]? = some (some x) := e
      have hj : i = ρ.v.length := by
        have := (List.getElem?_eq_some_iff.mp e).1
        simp at this; omega
      subst hj
      simp at e
      subst e
      exact ⟨v, by rw [← E.len]; simp, h⟩
  apart := fun i j x y u n e1 o1 e2 o2 => by
    have e1 : (ρ.v ++ [some b])[i]? = some (some x) := e1
    have e2 : (ρ.v ++ [some b])[j]? = some (some y) := e2
    have key : ∀ {i : Nat} {x : B}, (ρ.v ++ [some b])[i]? = some (some x) → (i < ρ.v.length ∧ ρ.v[i]? = some (some x) ∧ (σ ++ [some v])[i]? = σ[i]?) ∨ (i = ρ.v.length ∧ x = b ∧ (σ ++ [some v])[i]? = some (some v)) := fun {i x} e => by
      by_cases hi : i < ρ.v.length
      · rw [List.getElem?_append_left hi] at e
        exact .inl ⟨hi, e, List.getElem?_append_left (by rw [E.len]; exact hi)⟩
      · have hj : i = ρ.v.length := by
          have := (List.getElem?_eq_some_iff.mp e).1
          simp at this; omega
        subst hj
        simp at e
        exact .inr ⟨rfl, e.symm, by rw [← E.len]; simp⟩
    rcases key e1 with ⟨h1, f1, g1⟩ | ⟨h1, f1, g1⟩ <;> rcases key e2 with ⟨h2, f2, g2⟩ | ⟨h2, f2, g2⟩
    · rw [g1, g2]; exact E.apart i j x y u n f1 o1 f2 o2
    · rw [g1, g2]
      subst f2
      intro q q'; cases q'
      exact hf o2 i x f1 o1 q
    · rw [g1, g2]
      subst f1
      intro q q'; cases q
      exact hf o1 j y f2 o2 q'
    · exact absurd (h1.trans h2.symm) n
  sys := E.sys
theorem ER.push {P : Pm} {Hs H : Hp} {σ : L2.St} {ρ : S} {v : V} {r : Res} (E : ER P Hs H σ ρ) (h : RR P Hs H σ ρ v r) : ∃ Hs', Same Hs Hs' ∧ ER P Hs' H (σ ++ [some v]) (ρ.push r) := by
  cases r with
  | d x => exact ⟨Hs, Same.refl _, E.pushB (b := .d x) h fun z => by cases z⟩
  | l xs => exact ⟨Hs, Same.refl _, E.pushB (b := .l xs) h.1 fun _ => h.2⟩
  | m ks xs => exact ⟨Hs, Same.refl _, E.pushB (b := .m ks xs) h.1 fun _ => h.2⟩
  | p i =>
    obtain ⟨h1, b, h2, h3⟩ := h
    have hl : O.look ρ (.p i) = some b.dat := by simp only [O.look, h2]
    obtain ⟨Hs', g, E', q⟩ := E.fz h1 hl
    refine ⟨Hs', g, ?_⟩
    simp only [S.push, hl]
    have := E'.pushB (b := .d b.dat) q fun z => by cases z
    rw [S.fz_k] at this
    exact this
theorem ER.mv {P : Pm} {Hs H : Hp} {σ : L2.St} {ρ : S} {v : V} {i : Nat} (E : ER P Hs H (σ ++ [some v]) ρ) : ER P Hs H (σ.set i (some v)) (ρ.mv i) := by
  have hl : ρ.v.length = σ.length + 1 := by rw [← E.len]; simp
  have hne : ρ.v ≠ [] := fun z => by rw [z] at hl; simp at hl
  obtain ⟨vs, b, hv⟩ : ∃ vs b, ρ.v = vs ++ [b] := ⟨ρ.v.dropLast, ρ.v.getLast hne, (List.dropLast_concat_getLast hne).symm⟩
  have hvl : vs.length = σ.length := by rw [hv] at hl; simpa using hl
  have e0 : ρ.mv i = ⟨vs.set i b, ρ.k⟩ := by unfold S.mv; rw [hv]; simp
  rw [e0]
  have key : ∀ {j : Nat} {x : B}, (vs.set i b)[j]? = some (some x) → (j ≠ i ∧ ρ.v[j]? = some (some x) ∧ j < σ.length ∧ (σ.set i (some v))[j]? = (σ ++ [some v])[j]?) ∨ (j = i ∧ b = some x ∧ j < σ.length ∧ (σ.set i (some v))[j]? = some (some v)) := fun {j x} e => by
    have hj : j < vs.length := by have := (List.getElem?_eq_some_iff.mp e).1; simpa using this
    by_cases z : j = i
    · subst z
      rw [List.getElem?_set_self hj] at e
      exact .inr ⟨rfl, Option.some.inj e, by omega, List.getElem?_set_self (by omega)⟩
    · rw [List.getElem?_set_ne (Ne.symm z)] at e
      exact .inl ⟨z, by rw [hv, List.getElem?_append_left hj]; exact e, by omega, by rw [List.getElem?_set_ne (Ne.symm z), List.getElem?_append_left (by omega)]⟩
  have last : ∀ {x : B}, b = some x → ρ.v[σ.length]? = some (some x) ∧ (σ ++ [some v])[σ.length]? = some (some v) := fun {x} e => ⟨by rw [hv, ← hvl, e]; simp, by simp⟩
  exact ⟨E.sub, E.grow, E.keep, E.old, E.dk, E.dkin, by simp [hvl], fun j x e => by
    rcases key e with ⟨_, h1, _, h2⟩ | ⟨_, h1, _, h2⟩
    · rw [h2]; exact E.slot j x h1
    · rw [h2]
      obtain ⟨f1, f2⟩ := last h1
      obtain ⟨w, q1, q2⟩ := E.slot _ x f1
      rw [f2] at q1; cases q1
      exact ⟨v, rfl, q2⟩, fun j k x y u n e1 o1 e2 o2 => by
    rcases key e1 with ⟨n1, h1, l1, g1⟩ | ⟨n1, h1, l1, g1⟩ <;> rcases key e2 with ⟨n2, h2, l2, g2⟩ | ⟨n2, h2, l2, g2⟩
    · rw [g1, g2]; exact E.apart j k x y u n h1 o1 h2 o2
    · rw [g1, g2]
      obtain ⟨f1, f2⟩ := last h2
      intro q q'; cases q'
      exact E.apart j σ.length x y v (by omega) h1 o1 f1 o2 q f2
    · rw [g1, g2]
      obtain ⟨f1, f2⟩ := last h1
      intro q q'; cases q
      exact E.apart σ.length k x y v (by omega) f1 o1 h2 o2 f2 q'
    · exact absurd (n1.trans n2.symm) n, E.sys⟩
theorem app1 {σ : L2.St} {τ : List V} {v : V} : σ ++ (τ ++ [v]).map some = (σ ++ τ.map some) ++ [some v] := by simp
theorem mv_set {σ : L2.St} {τ : List V} {j : Nat} {v : V} (hl : j < σ.length) : (σ ++ τ.map some).set j (some v) = σ.set j (some v) ++ τ.map some := by rw [List.set_append_left _ _ hl]
theorem js_par {i j : Nat} {x y : Str} {a b : Expr} {wb : W} {px py pt : Pos} {kt k2 pt2} (G : Good Γ Sc X) (hi : X.N[i]? = some x) (hj : X.N[j]? = some y) (hij : i ≠ j)
    (hx : X.env.scope.names.lookup x = some .local) (hy : X.env.scope.names.lookup y = some .local) (ha : JE X dk a wa) (hb : JE X dk b wb)
    (h1 : starEach [a, b] X.env = (false, eval a X.env) :: starEach [b] X.env) (h2 : starEach [b] X.env = (false, eval b X.env) :: starEach [] X.env)
    (hw : swappedStores [.Tuple [.Name x px, .Name y py] kt pt] (.Tuple [a, b] k2 pt2) X.env = pure (some [x, y]))
    (hs : swapsWithSole [.Tuple [.Name x px, .Name y py] kt pt] (.Tuple [a, b] k2 pt2) pos.line X.env = pure false) : JS X dk (.Assign [.Tuple [.Name x px, .Name y py] kt pt] (.Tuple [a, b] k2 pt2) pos) (wPar [i, j] [wa, wb]) := fun P fit =>
  ps_weakL (ps_par G.calm (by rw [G.N]; exact G.nd) hi hj hij hx hy (pa_cons (ha P fit) (pa_cons (hb P fit) pa_nil h2) h1) hw hs) fun D σ H hlen ⟨Hs, ρ, c, E, q, k1, k2, k3, k4⟩ => inE E q fun Hs1 H1 ρ1 v1 r1 g1 E1 q1 h => by
    have lj : j < σ.length := by rw [hlen]; exact (List.getElem?_eq_some_iff.mp hj).1
    obtain ⟨Hs2, g2, E2⟩ := E1.push q1
    refine ⟨[v1], Hs2, _, _, E2, h, fun Hs3 H3 ρ3 v3 r3 g3 E3 q3 h3 => ?_⟩
    obtain ⟨Hs4, g4, E4⟩ := E3.push q3
    refine ⟨v1, v3, rfl, ?_⟩
    have E5 := (ER.mv (i := j) E4)
    rw [mv_set lj] at E5
    have E6 := ER.mv (i := i) E5
    rw [List.set_comm _ _ hij]
    exact k1 _ Hs4 H3 _ (((g1.trans g2).trans g3).trans g4) E6 h3
theorem js_par3 {i j l : Nat} {x y z : Str} {a b d : Expr} {wb wd : W} {px py pz pt : Pos} {kt k2 pt2} (G : Good Γ Sc X) (hi : X.N[i]? = some x) (hj : X.N[j]? = some y) (hl : X.N[l]? = some z) (hij : i ≠ j) (hil : i ≠ l) (hjl : j ≠ l)
    (hx : X.env.scope.names.lookup x = some .local) (hy : X.env.scope.names.lookup y = some .local) (hz : X.env.scope.names.lookup z = some .local) (ha : JE X dk a wa) (hb : JE X dk b wb) (hd : JE X dk d wd)
    (h1 : starEach [a, b, d] X.env = (false, eval a X.env) :: starEach [b, d] X.env) (h2 : starEach [b, d] X.env = (false, eval b X.env) :: starEach [d] X.env) (h3 : starEach [d] X.env = (false, eval d X.env) :: starEach [] X.env)
    (hw : swappedStores [.Tuple [.Name x px, .Name y py, .Name z pz] kt pt] (.Tuple [a, b, d] k2 pt2) X.env = pure (some [x, y, z]))
    (hs : swapsWithSole [.Tuple [.Name x px, .Name y py, .Name z pz] kt pt] (.Tuple [a, b, d] k2 pt2) pos.line X.env = pure false) : JS X dk (.Assign [.Tuple [.Name x px, .Name y py, .Name z pz] kt pt] (.Tuple [a, b, d] k2 pt2) pos) (wPar [i, j, l] [wa, wb, wd]) := fun P fit =>
  ps_weakL (ps_par3 G.calm (by rw [G.N]; exact G.nd) hi hj hl hij hil hjl hx hy hz (pa_cons (ha P fit) (pa_cons (hb P fit) (pa_cons (hd P fit) pa_nil h3) h2) h1) hw hs) fun D σ H hlen ⟨Hs, ρ, c, E, q, k1, k2, k3, k4⟩ => inE E q fun Hs1 H1 ρ1 v1 r1 g1 E1 q1 h => by
    have lj : j < σ.length := by rw [hlen]; exact (List.getElem?_eq_some_iff.mp hj).1
    have ll : l < σ.length := by rw [hlen]; exact (List.getElem?_eq_some_iff.mp hl).1
    obtain ⟨Hs2, g2, E2⟩ := E1.push q1
    refine ⟨[v1], Hs2, _, _, E2, h, fun Hs3 H3 ρ3 v3 r3 g3 E3 q3 h3 => ?_⟩
    obtain ⟨Hs4, g4, E4⟩ := E3.push q3
    rw [← app1] at E4
    refine ⟨[v1] ++ [v3], Hs4, _, _, E4, h3, fun Hs5 H5 ρ5 v5 r5 g5 E5 q5 h5 => ?_⟩
    obtain ⟨Hs6, g6, E6⟩ := E5.push q5
    refine ⟨v1, v3, v5, rfl, ?_⟩
    have E7 := ER.mv (i := l) E6
    rw [mv_set ll, app1] at E7
    have E8 := ER.mv (i := j) E7
    rw [mv_set (by rw [List.length_set]; exact lj)] at E8
    have E9 := ER.mv (i := i) E8
    have e : ((σ.set i (some v1)).set j (some v3)).set l (some v5) = ((σ.set l (some v5)).set j (some v3)).set i (some v1) := by
      rw [List.set_comm (i := i) (j := j) _ _ hij, List.set_comm (i := i) (j := l) _ _ hil, List.set_comm (i := j) (j := l) _ _ hjl]
    rw [e]
    exact k1 _ Hs6 H5 _ (((((g1.trans g2).trans g3).trans g4).trans g5).trans g6) E9 h5

/-! ### loops -/
theorem js_for (G : Good Γ Sc X) (hi : JI X dk tg iter wi) (hg : JG X dk tg ws g) (hb : JSs X dk sts w) (hs : ∀ x, foldedSetIterable iter X.env x = pure x) : JS X dk (.For tg iter sts [] pos) (wFor wi g w) := fun P fit =>
  ps_weak (ps_for G.po G.calm (hi P fit) (hg P fit) (hb P fit) hs) fun D σ H ⟨Hs, ρ, c, E, q, k1, k2, k3, k4⟩ => by
    refine ⟨[], Hs, ρ, _, by rw [nilτ]; exact E, q, fun Hs1 H1 ρ1 xs J g1 E1 jok go => ?_⟩
    rw [nilτ] at E1
    refine ⟨fun i m σ H => m = xs.length - i ∧ i ≤ xs.length ∧ ∃ (Hs2 : Hp) (ρ2 : S), Same Hs1 Hs2 ∧ ER P Hs2 H σ ρ2 ∧ forGo g w (xs.drop i) ρ2 c, ⟨_, rfl, Nat.zero_le _, Hs1, ρ1, Same.refl _, E1, go⟩, ?_⟩
    rintro i m σ H ⟨rfl, hle, Hs2, ρ2, gs, E2, go⟩
    by_cases hlt : i < xs.length
    · right
      refine ⟨jok.go i H (gs.trans E2.sub) hlt, fun σ' H' => i + 1 ≤ xs.length ∧ ∃ (Hs2 : Hp) (ρ2 : S), Same Hs1 Hs2 ∧ ER P Hs2 H' σ' ρ2 ∧ forGo g w (xs.drop (i + 1)) ρ2 c, fun σ' H' hN => ⟨_, by omega, rfl, hN⟩, fun x H' y => ?_⟩
      obtain ⟨d, hd, nr⟩ := jok.yld i H x H' Hs2 (gs.trans E2.sub) gs E2.sub hlt y
      rw [List.drop_eq_getElem_cons hlt] at go
      have hd' : xs[i] = d := Option.some.inj (by rw [← hd]; simp [hlt])
      rw [hd'] at go
      obtain ⟨ρ3, hgs, go⟩ := go
      obtain ⟨Hs3, g3, E3, q3⟩ := NR.er E2 nr
      refine ⟨[], Hs3, ρ2, d, ρ3, by rw [nilτ]; exact E3, q3, hgs, fun σ2 l2 a2 E5 => ?_⟩
      rw [nilτ] at E5
      refine ⟨Hs3, ρ3, _, E5, go, fun σ' Hs' H' ρ' g' E' h => ⟨hlt, Hs', ρ', (gs.trans g3).trans g', E', h⟩, fun σ' Hs' H' ρ' v r g' E' rr h => k2 σ' Hs' H' ρ' v r (((g1.trans gs).trans g3).trans g') E' rr h, fun σ' Hs' H' ρ' g' E' h => k1 σ' Hs' H' ρ' (((g1.trans gs).trans g3).trans g') E' h, fun σ' Hs' H' ρ' g' E' h => ⟨hlt, Hs', ρ', (gs.trans g3).trans g', E', h⟩⟩
    · have e : i = xs.length := by omega
      subst e
      left
      rw [List.drop_length] at go
      exact ⟨jok.stop _ H (gs.trans E2.sub) (Nat.le_refl _), k1 σ Hs2 H ρ2 (g1.trans gs) E2 go⟩
theorem js_while (G : Good Γ Sc X) (hc : JT X dk cnd wt) (hb : JSs X dk sts w) : JS X dk (.While cnd sts [] pos) (wWhile wt w) := fun P fit =>
  ps_weak (ps_while G.po (hc P fit) (hb P fit)) fun D σ H ⟨Hs, ρ, c, E, ⟨I, ⟨m0, i0⟩, turn⟩, k1, k2, k3, k4⟩ => by
    refine ⟨fun m σ H => ∃ (Hs2 : Hp) (ρ2 : S), Same Hs Hs2 ∧ ER P Hs2 H σ ρ2 ∧ I m ρ2, ⟨m0, Hs, ρ, Same.refl _, E, i0⟩, ?_⟩
    rintro m σ H ⟨Hs2, ρ2, gs, E2, i2⟩
    refine inT E2 (turn m ρ2 i2) fun Hs3 H3 ρ3 b g3 E3 h => ?_
    cases b with
    | false => exact k1 σ Hs3 H3 ρ3 (gs.trans g3) E3 h
    | true =>
      refine ⟨fun σ' H' => ∃ (Hs4 : Hp) (ρ4 : S) (m' : Nat), m' < m ∧ Same Hs Hs4 ∧ ER P Hs4 H' σ' ρ4 ∧ I m' ρ4, fun σ' H' ⟨Hs4, ρ4, m', hm, g4, E4, i4⟩ => ⟨m', hm, Hs4, ρ4, g4, E4, i4⟩, Hs3, ρ3, _, E3, h, ?_, ?_, ?_, ?_⟩
      · exact fun σ' Hs' H' ρ' g' E' ⟨m', hm, h⟩ => ⟨Hs', ρ', m', hm, (gs.trans g3).trans g', E', h⟩
      · exact fun σ' Hs' H' ρ' v r g' E' rr h => k2 σ' Hs' H' ρ' v r ((gs.trans g3).trans g') E' rr h
      · exact fun σ' Hs' H' ρ' g' E' h => k1 σ' Hs' H' ρ' ((gs.trans g3).trans g') E' h
      · exact fun σ' Hs' H' ρ' g' E' ⟨m', hm, h⟩ => ⟨Hs', ρ', m', hm, (gs.trans g3).trans g', E', h⟩
end
section
variable {Γ : Gam} {Sc : Sx} {X : Cx} {dk : Option (Addr × Addr)} {elt tg iter : Expr} {ifs : List Expr} {scope : Scope} {own : List (Str × Nat)} {pos spos : Pos} {wi : WI} {g : WG} {ws : List Nat} {tt : WT} {te : W}
/-- name = [.. for .. in ..] on one line -/
theorem js_setLc {i : Nat} {y : Str} {py : Pos} (G : Good Γ Sc X) (hy : X.N[i]? = some y) (hyl : X.env.scope.names.lookup y = some .local) (hsw : swapsWith (.ListComp elt [⟨tg, iter, ifs, 0⟩] scope pos) (some (.Name y py)) spos.line X.env = pure true)
    (hi : JI X dk tg iter wi) (ok : BlkOk X.N X.env.scope scope own) (hw : ∀ j ∈ ws, j ∈ own.map (·.2))
    (hg : ∀ X', Good Γ (Sc.blk scope) X' → JG X' dk tg ws g) (ht : ∀ X', Good Γ (Sc.blk scope) X' → JTs X' dk ifs tt) (he : ∀ X', Good Γ (Sc.blk scope) X' → JE X' dk elt te)
    (hs : ∀ x, foldedSetIterable iter X.env x = pure x) : JS X dk (.Assign [.Name y py] (.ListComp elt [⟨tg, iter, ifs, 0⟩] scope pos) spos) (wSet i (wLc wi g (own.map (·.2)) tt te)) := fun P fit =>
  ps_weakL (ps_setLc G.calm (by rw [G.N]; exact G.nd) hy hyl hsw (hi P fit) ok (fun s H C cl fp => (hg _ (G.blk s H C cl fp)).any) (fun s H C cl fp => (ht _ (G.blk s H C cl fp)).any) (fun s H C cl fp => (he _ (G.blk s H C cl fp)).any) hs) fun D σ H hl ⟨Hs, ρ, c, E, q, k1, k2, k3, k4⟩ => by
    have := lc_lift (P := P) (Q := fun x H1 => gName i x σ H1 D.nx) (ix_lt ok.ix hl) hw (inE E q fun Hs' H' ρ' v r g E' rr h => by
      obtain ⟨Hs2, g2, E2⟩ := E'.putA (i := i) rr
      exact k1 _ Hs2 H' _ (g.trans g2) E2 h)
    rw [fit.K, fit.dk] at this
    exact this
end
end Pz

set_option maxRecDepth 100000
set_option maxHeartbeats 4000000
/-! Pz, part 12: methods, displays of dicts, stores. -/
namespace Pz
open PySem L2 PySem.Spec PyProof.Rows

/-! ### what must be seen of the text -/
def noStar : Expr → Bool
  | .Starred .. => false
  | _ => true
theorem star_cons {e : Expr} {es : List Expr} {env : Env} (h : noStar e = true) : starEach (e :: es) env = (false, eval e env) :: starEach es env := by
  cases e <;> first | rfl | (exact absurd h (by simp [noStar]))
theorem star_plain {pos : Pos} {env : Env} : ∀ {es : List Expr}, es.all noStar = true → (backTo pos (starEach es env)).any (·.1) = false
  | [], _ => rfl
  | e :: es, h => by
    rw [List.all_cons, Bool.and_eq_true] at h
    rw [star_cons h.1]
    show (false || (backTo pos (starEach es env)).any (·.1)) = false
    rw [star_plain h.2]; rfl
theorem star_few {cpos : Pos} {env : Env} {es : List Expr} (h : es.all noStar = true) (hl : es.length < 30) : ((backTo cpos (starEach es env)).all (fun x => !x.1) && (backToKw cpos (keywordEach [] env)).all (fun x => x.1.isSome)
      && decide (es.length + ([] : List Keyword).length + (if ([] : List Keyword).isEmpty then 0 else 1) < 30)) = true := by
  have h1 : (backTo cpos (starEach es env)).all (fun x => !x.1) = true := by
    have := star_plain (pos := cpos) (env := env) h
    rw [List.all_eq_not_any_not]
    simp only [Bool.not_not]
    rw [this]; rfl
  rw [h1]
  simp [backToKw, keywordEach, hl]
def plainO : Expr → Bool
  | .Call (.Name _ _) [] [] _ => false
  | _ => true
theorem base_ok {o : Expr} (h : plainO o = true) (m : Str) (env : Env) (whole : Sem Value) : attributeBase o m env whole = whole := by
  unfold attributeBase
  split
  · exact absurd h (by simp [plainO])
  · rfl
def noComp : Expr → Bool
  | .ListComp .. => false
  | .SetComp .. => false
  | .DictComp .. => false
  | _ => true
theorem noComp_ok {e : Expr} (h : noComp e = true) (t : Option Expr) (l : Nat) (env : Env) : swapsWith e t l env = pure false := by
  cases e <;> first | rfl | (exact absurd h (by simp [noComp]))

/-! ### methods of values -/
inductive Mth where
  | split | words | join | upper | lower
  deriving DecidableEq
def Mth.ty : Mth → String
  | .split => "str" | .words => "str" | .join => "str" | .upper => "str" | .lower => "str"
def Mth.nm : Mth → Str
  | .split => "split" | .words => "split" | .join => "join" | .upper => "upper" | .lower => "lower"
def D.tyS : D → String
  | .str _ => "str"
  | .dic _ _ => "dict"
  | .lst _ => "list"
  | _ => ""
def strsD : List D → Option (List Str)
  | [] => some []
  | .str x :: ds => (strsD ds).map (x :: ·)
  | _ :: _ => none
theorem strsD_eq : ∀ {ds : List D} {xs : List Str}, strsD ds = some xs → ds = xs.map .str
  | [], _, h => by cases h; rfl
  | .str x :: ds, xs, h => by
    simp only [strsD, Option.map_eq_some_iff] at h
    obtain ⟨ys, h1, rfl⟩ := h
    rw [strsD_eq h1]; rfl
  | .non :: _, _, h => by simp [strsD] at h
  | .bl _ :: _, _, h => by simp [strsD] at h
  | .int _ :: _, _, h => by simp [strsD] at h
  | .lst _ :: _, _, h => by simp [strsD] at h
  | .tup _ :: _, _, h => by simp [strsD] at h
  | .dic _ _ :: _, _, h => by simp [strsD] at h
  | .dit _ _ :: _, _, h => by simp [strsD] at h
  | .ins _ _ _ :: _, _, h => by simp [strsD] at h
  | .cst _ :: _, _, h => by simp [strsD] at h
def joinOk (a : Str) (ds : List D) (R : Res → Prop) : Prop := ∃ ys, strsD ds = some ys ∧ (ys.map (·.length)).sum + ys.length * a.length ≤ 16777216 ∧ R (.d (.str (Txt.join a ys)))
/-- the object, the arguments -/
def Mth.fn : Mth → FN
  | .split, [.str a, .str b], R => ((b.length == 0) = false ∧ a.length + 2 ≤ sizeLine) ∧ R (.l ((Txt.split a b).map .str))
  | .words, [.str a], R => a.length + 2 ≤ sizeLine ∧ R (.l ((Txt.words a).map .str))
  | .join, [.str a, .lst ds], R => joinOk a ds R
  | .join, [.str a, .tup ds], R => joinOk a ds R
  | .upper, [.str a], R => a.length ≤ 5592405 ∧ R (.d (.str (Txt.upper a)))
  | .lower, [.str a], R => a.length ≤ 5592405 ∧ R (.d (.str (Txt.lower a)))
  | _, _, _ => False
/-- by values -/
structure MthR (X : Cx) (m : Mth) : Prop where
  ex : ∃ (id : String) (r : V → List V → Hp → VK → Prop), PlainAttrs m.ty ∧ Slot m.ty m.nm id ∧ typeOf (.builtin id) = pure (.type "method_descriptor") ∧ MtR X id r ∧ OpN X.K (fun vs H Q => ∃ x xs, vs = x :: xs ∧ r x xs H Q) m.fn
theorem nl_strs {K : PySem.W.Frag} {Hs H : Hp} {R : Res → Prop} {Q : VK} {ys : List Str} (hf : R (.l (ys.map .str))) (k : ∀ z res H', NR K Hs H z res H' → R res → Q z H') : rNewStrs ys H Q := fun p hp => k _ _ _ (.nl hp (RpL.strs ys)) hf
theorem mth_ok {X : Cx} : ∀ m : Mth, MthR X m
  | .split => ⟨⟨_, _, PySem.F.plainAttrs_str, F.slot_str_split, F.type_str_split, mt_split, fun {Hs H ds vs R Q} e sy hx hf k => by
    match ds, hf with
    | [.str a, .str b], hf =>
      obtain ⟨v, u, rfl, h1, h2⟩ := hx.two
      cases (show v = _ from h1); cases (show u = _ from h2)
      exact ⟨_, _, rfl, a, b, rfl, rfl, hf.1.1, hf.1.2, nl_strs hf.2 k⟩⟩⟩
  | .words => ⟨⟨_, _, PySem.F.plainAttrs_str, F.slot_str_split, F.type_str_split, mt_words, fun {Hs H ds vs R Q} e sy hx hf k => by
    match ds, hf with
    | [.str a], hf =>
      obtain ⟨v, rfl, h1⟩ := hx.one
      cases (show v = _ from h1)
      exact ⟨_, _, rfl, a, rfl, rfl, hf.1, nl_strs hf.2 k⟩⟩⟩
  | .join => ⟨⟨_, _, PySem.F.plainAttrs_str, F.slot_str_join, F.type_str_join, mt_join, fun {Hs H ds vs R Q} e sy hx hf k => by
    match ds, hf with
    | [.str a, .lst ds], hf =>
      obtain ⟨v, u, rfl, h1, p, ws, rfl, h2, h3⟩ := hx.two
      cases (show v = _ from h1)
      obtain ⟨ys, h4, h5, h6⟩ := hf
      rw [strsD_eq h4] at h3
      cases RpL.of_strs h3
      exact ⟨_, _, rfl, a, p, ys, rfl, rfl, .inl (SqL.of h2), h5, k _ _ _ nr_str h6⟩
    | [.str a, .tup ds], hf =>
      obtain ⟨v, u, rfl, h1, p, ws, rfl, h2, h3⟩ := hx.two
      cases (show v = _ from h1)
      obtain ⟨ys, h4, h5, h6⟩ := hf
      rw [strsD_eq h4] at h3
      cases RpL.of_strs h3
      exact ⟨_, _, rfl, a, p, ys, rfl, rfl, .inr (same_t e h2), h5, k _ _ _ nr_str h6⟩⟩⟩
  | .upper => ⟨⟨_, _, PySem.F.plainAttrs_str, F.slot_str_upper, F.type_str_upper, mt_upper, fun {Hs H ds vs R Q} e sy hx hf k => by
    match ds, hf with
    | [.str a], hf =>
      obtain ⟨v, rfl, h1⟩ := hx.one
      cases (show v = _ from h1)
      exact ⟨_, _, rfl, a, rfl, rfl, hf.1, k _ _ _ nr_str hf.2⟩⟩⟩
  | .lower => ⟨⟨_, _, PySem.F.plainAttrs_str, F.slot_str_lower, F.type_str_lower, mt_lower, fun {Hs H ds vs R Q} e sy hx hf k => by
    match ds, hf with
    | [.str a], hf =>
      obtain ⟨v, rfl, h1⟩ := hx.one
      cases (show v = _ from h1)
      exact ⟨_, _, rfl, a, rfl, rfl, hf.1, k _ _ _ nr_str hf.2⟩⟩⟩
theorem tyV_of {K : PySem.W.Frag} {Hs H : Hp} {x : D} {v : V} {T : String} (h : Rt K Hs H x v) (ht : x.tyS = T) (hT : T ≠ "") : tyV K T v H := by
  subst ht
  cases x with
  | str z => cases (show v = _ from h); rfl
  | dic ks xs => obtain ⟨a, vs, rfl, h1, _⟩ := h; exact .inr (.inr (.inl ⟨rfl, .inl ⟨_, h1⟩⟩))
  | lst xs => obtain ⟨a, vs, rfl, h1, _⟩ := h; exact .inl ⟨rfl, _, SqL.of h1⟩
  | _ => exact absurd rfl hT
def wMth (m : Mth) (a : W) (t : WA) : W := fun ρ R => a ρ fun r ρ1 => (∃ x, r.fz.look ρ1 = some x ∧ x.tyS = m.ty) ∧ t ρ1 fun os ρ2 => ∃ ds, looks ρ2 (r.fz :: os) = some ds ∧ m.fn ds fun z => R z ρ2
theorem mty_ne (m : Mth) : m.ty ≠ "" := by cases m <;> decide
section
variable {Γ : Gam} {Sc : Sx} {X : Cx} {dk : Option (Addr × Addr)} {o e : Expr} {es : List Expr} {wo wa : W} {t : WA} {apos cpos p pos : Pos}
theorem je_mth (m : Mth) (ho : JE X dk o wo) (ha : JA X dk (e :: es) t) (hb : plainO o = true) (hl : (apos.endLine == cpos.line) = true) (hs : (e :: es).all noStar = true) (hn : (e :: es).length < 30) : JE X dk (.Call (.Attribute o m.nm apos) (e :: es) [] cpos) (wMth m wo t) := fun P fit => by
  obtain ⟨id, r, h1, h2, h3, h4, h5⟩ := (mth_ok (X := X) m).ex
  have hs' := hs
  rw [List.all_cons, Bool.and_eq_true] at hs'
  refine pe_weak (pe_bm h1 h2 h3 h4 (ho P fit) (ha P fit) (base_ok hb _ _ _) (star_few hs hn) hl (star_cons hs'.1) (star_plain hs'.2)) fun σ H Q ⟨τ, Hs, ρ, R, E, q, k⟩ => ⟨τ, Hs, ρ, _, E, q, fun Hs1 H1 ρ1 v1 r1 g1 E1 q1 ⟨⟨x, hx, ht⟩, h⟩ => ?_⟩
  obtain ⟨Hs2, g2, E2, q2⟩ := q1.fz E1
  rw [← fit.K]
  refine ⟨tyV_of (q2.rt E2 hx) ht (mty_ne m), τ, Hs2, ρ1, _, E2, h, fun Hs3 H3 ρ3 vs os g3 E3 q3 ⟨ds, hl, hf⟩ => ?_⟩
  have hr : ROs P Hs3 (σ ++ τ.map some) (v1 :: vs) (r1.fz :: os) := ⟨v1, vs, rfl, q2.mono g3, q3⟩
  have := opN_go (R := fun z ρ => R z ρ) (Q := Q) (fit.K ▸ h5) E3 hr hl hf fun Hs' H' v r g E' => k Hs' H' ρ3 v r (((g1.trans g2).trans g3).trans g) E'
  obtain ⟨x', xs', e, q⟩ := this
  cases e
  exact q
theorem je_mth0 (m : Mth) (ho : JE X dk o wo) (hb : plainO o = true) (hl : (apos.endLine == cpos.line) = true) : JE X dk (.Call (.Attribute o m.nm apos) [] [] cpos) (wMth m wo waNil) := fun P fit => by
  obtain ⟨id, r, h1, h2, h3, h4, h5⟩ := (mth_ok (X := X) m).ex
  refine pe_weak (pe_bm0 h1 h2 h3 h4 (ho P fit) (base_ok hb _ _ _) hl) fun σ H Q ⟨τ, Hs, ρ, R, E, q, k⟩ => ⟨τ, Hs, ρ, _, E, q, fun Hs1 H1 ρ1 v1 r1 g1 E1 q1 ⟨⟨x, hx, ht⟩, ds, hl, hf⟩ => ?_⟩
  obtain ⟨Hs2, g2, E2, q2⟩ := q1.fz E1
  rw [← fit.K]
  refine ⟨tyV_of (q2.rt E2 hx) ht (mty_ne m), ?_⟩
  have hr : ROs P Hs2 (σ ++ τ.map some) [v1] [r1.fz] := ⟨v1, [], rfl, q2, rfl⟩
  have := opN_go (R := fun z ρ => R z ρ) (Q := Q) (fit.K ▸ h5) E2 hr hl hf fun Hs' H' v r g E' => k Hs' H' ρ1 v r ((g1.trans g2).trans g) E'
  obtain ⟨x', xs', e, q⟩ := this
  cases e
  exact q

/-! ### methods that change a list of the def's own -/
/-- x.append(e) -/
def wApp (i : Nat) (a : W) : W := fun ρ R => (∃ xs, ρ.v[i]? = some (some (.l xs))) ∧ a ρ fun r ρ1 => ∃ d xs, r.fz.look ρ1 = some d ∧ (r.fz.fz ρ1).v[i]? = some (some (.l xs)) ∧ xs.length < sizeLine ∧ R (.d .non) ((r.fz.fz ρ1).set i (.l (xs ++ [d])))
theorem own_lst {P : Pm} {Hs H : Hp} {σ : L2.St} {ρ : S} {i : Nat} {xs : List D} (E : ER P Hs H σ ρ) (h : ρ.v[i]? = some (some (.l xs))) : ∃ a vs, σ[i]? = some (some (.ref a)) ∧ H a = some (.lst vs) ∧ Hs a = none ∧ P.H0 a = none ∧ RpL P.K Hs xs vs := by
  obtain ⟨v, h1, a, vs, rfl, h2, h3, h4, h5⟩ := E.slot i _ h
  exact ⟨a, vs, h1, h4, h2, h3, h5⟩
theorem je_app {i : Nat} {x : Str} (hN : X.N[i]? = some x) (hv : Vis X.env.scope x) (hd : (x == ("__debug__" : Str)) = false) (hcd : (x == ("__classdict__" : Str)) = false) (ha : JE X dk e wa) (hl : (apos.endLine == cpos.line) = true) (hs : noStar e = true) :
    JE X dk (.Call (.Attribute (.Name x p) "append" apos) [e] [] cpos) (wApp i wa) := fun P fit => by
  have hs' : [e].all noStar = true := by simp [hs]
  refine pe_weakL (pe_bm PySem.F.plainAttrs_list F.slot_list_append F.type_list_append mt_append (pe_var hN hv hd hcd) (pa_cons (ha P fit) pa_nil (star_cons hs)) (base_ok rfl _ _ _) (star_few hs' (by simp)) hl (star_cons hs) rfl) fun σ H Q hlen ⟨τ, Hs, ρ, R, E, ⟨⟨xs, h0⟩, h⟩, k⟩ => ?_
  have hi : i < σ.length := by rw [hlen]; exact (List.getElem?_eq_some_iff.mp hN).1
  obtain ⟨a, vs, h1, h2, h3, h4, h5⟩ := own_lst E h0
  rw [← fit.K]
  refine ⟨_, app_get hi h1, .inl ⟨rfl, _, SqL.of h2⟩, τ, Hs, ρ, _, E, h, fun Hs1 H1 ρ1 v1 r1 g1 E1 q1 ⟨d, ys, hlk, hys, hz, hR⟩ => ?_⟩
  obtain ⟨Hs2, g2, E2, q2⟩ := q1.fz E1
  obtain ⟨Hs3, g3, E3, q3⟩ := O.er E2 q2 hlk
  obtain ⟨a', vs', f1, f2, f3, f4, f5⟩ := own_lst E3 hys
  rw [h1] at f1; cases f1
  refine ⟨a, vs', v1, rfl, rfl, f2, by rw [← f5.length]; exact hz, ?_⟩
  exact k Hs3 _ _ _ (.d .non) ((g1.trans g2).trans g3) (E3.mut (b := .l ys) (b' := .l (ys ++ [d])) hys rfl h1 ⟨a, _, rfl, f3, f4, upd_same, f5.append (.cons q3 .nil)⟩ rfl) rfl hR
/-- x.extend(e), x += e for lists: the list e stays -/
def wExt (i : Nat) (a : W) : W := fun ρ R => (∃ xs, ρ.v[i]? = some (some (.l xs))) ∧ a ρ fun r ρ1 => ∃ ds xs, r.fz.look ρ1 = some (.lst ds) ∧ (r.fz.fz ρ1).v[i]? = some (some (.l xs)) ∧ xs.length + ds.length ≤ sizeLine ∧ R (.d .non) ((r.fz.fz ρ1).set i (.l (xs ++ ds)))
theorem je_ext {i : Nat} {x : Str} (hN : X.N[i]? = some x) (hv : Vis X.env.scope x) (hd : (x == ("__debug__" : Str)) = false) (hcd : (x == ("__classdict__" : Str)) = false) (ha : JE X dk e wa) (hl : (apos.endLine == cpos.line) = true) (hs : noStar e = true) :
    JE X dk (.Call (.Attribute (.Name x p) "extend" apos) [e] [] cpos) (wExt i wa) := fun P fit => by
  have hs' : [e].all noStar = true := by simp [hs]
  refine pe_weakL (pe_bm PySem.F.plainAttrs_list F.slot_list_extend F.type_list_extend mt_extend (pe_var hN hv hd hcd) (pa_cons (ha P fit) pa_nil (star_cons hs)) (base_ok rfl _ _ _) (star_few hs' (by simp)) hl (star_cons hs) rfl) fun σ H Q hlen ⟨τ, Hs, ρ, R, E, ⟨⟨xs, h0⟩, h⟩, k⟩ => ?_
  have hi : i < σ.length := by rw [hlen]; exact (List.getElem?_eq_some_iff.mp hN).1
  obtain ⟨a, vs, h1, h2, h3, h4, h5⟩ := own_lst E h0
  rw [← fit.K]
  refine ⟨_, app_get hi h1, .inl ⟨rfl, _, SqL.of h2⟩, τ, Hs, ρ, _, E, h, fun Hs1 H1 ρ1 v1 r1 g1 E1 q1 ⟨d, ys, hlk, hys, hz, hR⟩ => ?_⟩
  obtain ⟨Hs2, g2, E2, q2⟩ := q1.fz E1
  obtain ⟨Hs3, g3, E3, b, ws, rfl, z1, z2⟩ := O.er E2 q2 hlk
  obtain ⟨a', vs', f1, f2, f3, f4, f5⟩ := own_lst E3 hys
  rw [h1] at f1; cases f1
  refine ⟨a, b, vs', ws, rfl, rfl, f2, E3.sub _ _ z1, by rw [← f5.length, ← z2.length]; exact hz, ?_⟩
  exact k Hs3 _ _ _ (.d .non) ((g1.trans g2).trans g3) (E3.mut (b := .l ys) (b' := .l (ys ++ d)) hys rfl h1 ⟨a, _, rfl, f3, f4, upd_same, f5.append z2⟩ rfl) rfl hR
/-- x.pop() -/
def wPop (i : Nat) : W := fun ρ R => ∃ xs d, ρ.v[i]? = some (some (.l xs)) ∧ xs[xs.length - 1]? = some d ∧ R (.d d) (ρ.set i (.l xs.dropLast))
theorem je_pop {i : Nat} {x : Str} (hN : X.N[i]? = some x) (hv : Vis X.env.scope x) (hd : (x == ("__debug__" : Str)) = false) (hcd : (x == ("__classdict__" : Str)) = false) (hl : (apos.endLine == cpos.line) = true) :
    JE X dk (.Call (.Attribute (.Name x p) "pop" apos) [] [] cpos) (wPop i) := fun P fit =>
  pe_weakL (pe_bm0 PySem.F.plainAttrs_list F.slot_list_pop F.type_list_pop mt_pop (pe_var hN hv hd hcd) (base_ok rfl _ _ _) hl) fun σ H Q hlen ⟨τ, Hs, ρ, R, E, ⟨xs, d, h0, hd, h⟩, k⟩ => by
    have hi : i < σ.length := by rw [hlen]; exact (List.getElem?_eq_some_iff.mp hN).1
    obtain ⟨a, vs, h1, h2, h3, h4, h5⟩ := own_lst E h0
    obtain ⟨v, q1, q2⟩ := h5.get hd
    rw [← fit.K]
    refine ⟨_, app_get hi h1, .inl ⟨rfl, _, SqL.of h2⟩, a, vs, v, rfl, rfl, h2, by rw [← h5.length]; exact q1, ?_⟩
    exact k Hs _ _ _ (.d d) (Same.refl _) (E.mut (b := .l xs) (b' := .l xs.dropLast) h0 rfl h1 ⟨a, _, rfl, h3, h4, upd_same, h5.dropLast⟩ rfl) q2 h

/-! ### dicts that are written -/
def wDct0 : W := fun ρ R => R (.m [] []) ρ
theorem je_dct0 : JE X dk (.Dict [] [] pos) wDct0 := fun P fit => pe_weak pe_dnewK fun σ H Q ⟨τ, Hs, ρ, R, E, q, k⟩ p hp => by
  obtain ⟨Hs3, g3, E3, q3⟩ := NR.er E (.nm (ks := []) (ds := []) (vs := []) hp rfl rfl)
  exact k Hs3 _ _ _ _ g3 E3 q3 q
end
def putKs (ks : List Key) (k : Key) : List Key := if hasK ks k = true then ks else ks ++ [k]
def putVs {α : Type} (ks : List Key) (xs : List α) (k : Key) (x : α) : List α := if hasK ks k = true then List.zipWith (fun j y => if j = k then x else y) ks xs else xs ++ [x]
section
variable {K : PySem.W.Frag} {H : Hp}
theorem any_zip {α : Type} {k : Key} : ∀ {ks : List Key} {vs : List α}, ks.length = vs.length → ((ks.zip vs).any fun kv => decide (kv.1 = k)) = hasK ks k
  | [], [], _ => rfl
  | j :: ks, v :: vs, e => by
    rw [List.zip_cons_cons, List.any_cons, any_zip (by simpa using e)]; rfl
  | [], _ :: _, e => by simp at e
  | _ :: _, [], e => by simp at e
theorem map_zip {k : Key} {v : V} : ∀ {ks : List Key} {vs : List V}, ks.length = vs.length → (ks.zip vs).map (fun kv => if kv.1 = k then (kv.1, v) else kv) = ks.zip (List.zipWith (fun j y => if j = k then v else y) ks vs)
  | [], [], _ => rfl
  | j :: ks, u :: vs, e => by
    rw [List.zip_cons_cons, List.map_cons, map_zip (by simpa using e), List.zipWith_cons_cons, List.zip_cons_cons]
    by_cases z : j = k <;> simp [z]
  | [], _ :: _, e => by simp at e
  | _ :: _, [], e => by simp at e
theorem putK_zip {k : Key} {v : V} {ks : List Key} {vs : List V} (e : ks.length = vs.length) : putK (ks.zip vs) k v = (putKs ks k).zip (putVs ks vs k v) := by
  unfold putK putKs putVs
  rw [any_zip e]
  by_cases h : hasK ks k = true
  · rw [if_pos h, if_pos h, if_pos h, map_zip e]
  · rw [if_neg h, if_neg h, if_neg h, List.zip_append e]; rfl
theorem putVs_len {α : Type} {k : Key} {x : α} {ks : List Key} {xs : List α} (e : ks.length = xs.length) : (putKs ks k).length = (putVs ks xs k x).length := by
  unfold putKs putVs
  split
  · rw [List.length_zipWith, ← e, Nat.min_self]
  · simp [e]
theorem RpL.zipWith {k : Key} {d : D} {v : V} (h : Rp K H d v) : ∀ {ks : List Key} {ds : List D} {vs : List V}, RpL K H ds vs → RpL K H (List.zipWith (fun j y => if j = k then d else y) ks ds) (List.zipWith (fun j y => if j = k then v else y) ks vs)
  | [], _, _, _ => rfl
  | j :: ks, [], _, hr => by cases (show _ = [] from hr); rfl
  | j :: ks, x :: ds, _, ⟨u, r, e, h1, h2⟩ => by
    subst e
    rw [List.zipWith_cons_cons, List.zipWith_cons_cons]
    refine ⟨_, _, rfl, ?_, RpL.zipWith h h2⟩
    by_cases z : j = k
    · rw [if_pos z, if_pos z]; exact h
    · rw [if_neg z, if_neg z]; exact h1
theorem RpL.putVs {k : Key} {d : D} {v : V} {ks : List Key} {ds : List D} {vs : List V} (h : Rp K H d v) (hr : RpL K H ds vs) : RpL K H (putVs ks ds k d) (putVs ks vs k v) := by
  unfold Pz.putVs
  split
  · exact hr.zipWith h
  · exact hr.append (.cons h .nil)
/-- the pairs, from the left -/
def mrgD : List (Key × D) → List Key → List D → List Key × List D
  | [], ks, ds => (ks, ds)
  | p :: ps, ks, ds => mrgD ps (putKs ks p.1) (putVs ks ds p.1 p.2)
theorem mrg_rp : ∀ {ps : List (Key × D)} {qs : List (Key × V)} {ks : List Key} {ds : List D} {vs : List V}, ps.map (·.1) = qs.map (·.1) → RpL K H (ps.map (·.2)) (qs.map (·.2)) → ks.length = ds.length → RpL K H ds vs →
    ∃ vs', mergeK (ks.zip vs) qs = (mrgD ps ks ds).1.zip vs' ∧ (mrgD ps ks ds).1.length = (mrgD ps ks ds).2.length ∧ RpL K H (mrgD ps ks ds).2 vs'
  | [], [], ks, ds, vs, _, _, e, h => ⟨vs, rfl, e, h⟩
  | p :: ps, q :: qs, ks, ds, vs, e1, ⟨v, r, e2, h1, h2⟩, e, h => by
    rw [List.map_cons] at e2
    cases e2
    simp only [List.map_cons, List.cons.injEq] at e1
    obtain ⟨vs', z1, z2, z3⟩ := mrg_rp (ks := putKs ks p.1) (ds := putVs ks ds p.1 p.2) (vs := putVs ks vs p.1 q.2) e1.2 h2 (putVs_len e) (h.putVs h1)
    refine ⟨vs', ?_, z2, z3⟩
    show mergeK (putK (ks.zip vs) q.1 q.2) qs = _
    rw [putK_zip (e.trans h.length), ← e1.1]
    exact z1
  | [], _ :: _, _, _, _, e1, _, _, _ => by simp at e1
  | _ :: _, [], _, _, _, e1, _, _, _ => by simp at e1
end
/-- {k: v, ..}: texts or ints as keys -/
def dspGo : List (W × W) → List (Key × D) → S → (List (Key × D) → S → Prop) → Prop
  | [], acc, ρ, K => K acc ρ
  | p :: r, acc, ρ, K => p.1 ρ fun r1 ρ1 => p.2 ρ1 fun r2 ρ2 => ∃ x k d, r1.fz = .d x ∧ keyOf x = some k ∧ r2.fz.look ρ2 = some d ∧ dspGo r (acc ++ [(k, d)]) (r2.fz.fz ρ2) K
def wDct (ps : List (W × W)) : W := fun ρ R => dspGo ps [] ρ fun acc ρ' => R (.m (mrgD acc [] []).1 (mrgD acc [] []).2) ρ'
/-- the pairs of a display -/
inductive JPs (X : Cx) (dk : Option (Addr × Addr)) : List (Option Expr) → List Expr → List (W × W) → Prop
  | nil : JPs X dk [] [] []
  | cons {k v : Expr} {ks : List (Option Expr)} {vs : List Expr} {wk wv : W} {ps : List (W × W)} : JE X dk k wk → JE X dk v wv → JPs X dk ks vs ps → JPs X dk (some k :: ks) (v :: vs) ((wk, wv) :: ps)
section
variable {X : Cx} {dk : Option (Addr × Addr)} {pos : Pos}
theorem JPs.pps {ks : List (Option Expr)} {vs : List Expr} {ps : List (W × W)} (h : JPs X dk ks vs ps) : PPs X pos ks vs (ps.map fun p => (liftX X.K dk p.1, liftX X.K dk p.2)) := by
  induction h with
  | nil => exact pps_nil
  | cons h1 h2 _ ih => exact pps_cons h1.any h2.any ih
theorem JPs.shape {ks : List (Option Expr)} {vs : List Expr} {ps : List (W × W)} (h : JPs X dk ks vs ps) : ks.all (·.isSome) = true ∧ ks.length = vs.length ∧ ks.length = ps.length := by
  induction h with
  | nil => exact ⟨rfl, rfl, rfl⟩
  | cons h1 h2 _ ih => exact ⟨by simpa using ih.1, by simp [ih.2.1], by simp [ih.2.2]⟩
theorem dsp_lift {P : Pm} {τ : List V} {σ : L2.St} {Q : List (V × V) → Hp → Prop} : ∀ {ps : List (W × W)} {acc : List (Key × D)} {vacc : List (Key × V)} {Hs H : Hp} {ρ : S} {K : List (Key × D) → S → Prop}, ER P Hs H (σ ++ τ.map some) ρ → acc.map (·.1) = vacc.map (·.1) → RpL P.K Hs (acc.map (·.2)) (vacc.map (·.2)) → dspGo ps acc ρ K →
    (∀ Hs' H' ρ' qs qv, Same Hs Hs' → ER P Hs' H' (σ ++ τ.map some) ρ' → (acc ++ qs).map (·.1) = (vacc ++ qv).map (·.1) → RpL P.K Hs' ((acc ++ qs).map (·.2)) ((vacc ++ qv).map (·.2)) → qv.length = ps.length → K (acc ++ qs) ρ' → Q (qv.map fun kv => (kV kv.1, kv.2)) H') →
    tPairs (ps.map fun p => (liftX P.K P.dk p.1, liftX P.K P.dk p.2)) σ H Q
  | [], acc, vacc, Hs, H, ρ, K, E, e1, e2, h, k => k Hs H ρ [] [] (Same.refl _) E (by simpa using e1) (by simpa using e2) rfl (by rw [List.append_nil]; exact h)
  | p :: ps, acc, vacc, Hs, H, ρ, K, E, e1, e2, h, k => by
    refine ⟨P, ⟨rfl, rfl⟩, τ, Hs, ρ, _, E, h, fun Hs1 H1 ρ1 v1 r1 g1 E1 q1 h1 => ?_⟩
    refine ⟨P, ⟨rfl, rfl⟩, τ, Hs1, ρ1, _, E1, h1, fun Hs2 H2 ρ2 v2 r2 g2 E2 q2 ⟨x, kk, d, ex, hk, hd, h2⟩ => ?_⟩
    obtain ⟨Hs3, g3, E3, q3⟩ := q2.fz E2
    obtain ⟨Hs4, g4, E4, q4⟩ := O.er E3 q3 hd
    have hx : v1 = kV kk := by
      cases r1 with
      | d y =>
        cases ex
        exact keyOf_rp (Hs := Hs1) (H := H1) hk (Rt.of E1.sub q1)
      | l ys => cases ex; cases hk
      | m ks ys => cases ex; cases hk
      | p i => cases ex
    subst hx
    have gg := ((g1.trans g2).trans g3).trans g4
    refine dsp_lift (acc := acc ++ [(kk, d)]) (vacc := vacc ++ [(kk, v2)]) E4 (by simp [e1]) ?_ h2 fun Hs' H' ρ' qs qv g E' f1 f2 f3 hK => ?_
    · rw [List.map_append, List.map_append]
      exact (RpL.mono gg _ _ e2).append (.cons q4 .nil)
    · have := k Hs' H' ρ' ((kk, d) :: qs) ((kk, v2) :: qv) (gg.trans g) E' (by simpa using f1) (by simpa using f2) (by simp [f3]) (by simpa using hK)
      simpa using this
theorem je_dct {ks : List (Option Expr)} {vs : List Expr} {ps : List (W × W)} (h : JPs X dk ks vs ps) (h0 : ks ≠ []) (h15 : ks.length ≤ 15) : JE X dk (.Dict ks vs pos) (wDct ps) := fun P fit => by
  obtain ⟨s1, s2, s3⟩ := h.shape
  refine pe_weak (pe_disp h.pps s1 s2 h0 h15) fun σ H Q ⟨τ, Hs, ρ, R, E, q, k⟩ p hp => ?_
  obtain ⟨E2, hs, h0', hf⟩ := E.new (o := .dK []) hp
  have hs0 : P.Hs0 p = none := Same.free E.grow hs
  have nd : ¬ inDk P.dk p := fun z => E.dkin p z h0'
  have EH := hold_of E2 hs h0' upd_same hf
  rw [← fit.K, ← fit.dk]
  refine dsp_lift (P := P.hold p (.dK [])) (acc := []) (vacc := []) EH rfl rfl q fun Hs' H' ρ' qs qv g E' f1 f2 f3 hK => ?_
  obtain ⟨E3, n1, n2, n3⟩ := hold_back E' h0' hs0 nd
  refine ⟨n1, qv, rfl, by rw [f3, ← s3]; exact h15, ?_⟩
  obtain ⟨vs', z1, z2, z3⟩ := mrg_rp (ks := []) (ds := []) (vs := []) f1 f2 rfl rfl
  have z1' : mergeK [] qv = (mrgD qs [] []).1.zip vs' := z1
  rw [z1']
  exact k Hs' _ ρ' _ (.m _ _) g (E3.upd1 n2 h0' n3) ⟨⟨p, vs', rfl, n2, h0', upd_same, z2, z3⟩, n3⟩ hK

/-! ### isinstance -/
def tyD (t : Ty) : D := .cst (.ty t.nm)
def gIsi2 : FN
  | [x, .cst (.ty nm)], R => x.isD = true ∧ ∃ t : Ty, t.nm = nm ∧ R (.d (.bl (x.isTy t)))
  | _, _ => False
/-- isinstance(e, T) -/
def wIsi (t : Ty) (a : W) : W := fun ρ R => a ρ fun r ρ' => ∃ x, r.fz.look ρ' = some x ∧ x.isD = true ∧ R (.d (.bl (x.isTy t))) ρ'
def Ty.nmS : Ty → Str
  | .int => "int" | .bool => "bool" | .str => "str" | .tuple => "tuple" | .list => "list" | .dict => "dict"
theorem ty_boot (t : Ty) : bootBuiltins t.nmS = some (.type t.nm) := by cases t <;> rfl
theorem je_isi {e : Expr} {wa : W} {p p2 : Pos} (t : Ty) (hg : Gl X "isinstance") (hm : X.mg "isinstance" = none) (hg2 : Gl X t.nmS) (hm2 : X.mg t.nmS = none) (ha : JE X dk e wa) (hs : noStar e = true) : JE X dk (.Call (.Name "isinstance" p) [e, .Name t.nmS p2] [] pos) (wIsi t wa) := fun P fit => by
  have ht : PE X (.Name t.nmS p2) (tC (.ty t.nm)) := pe_bltn hg2 hm2 (ty_boot t) rfl (by cases t <;> decide) (by cases t <;> decide)
  refine pe_weak (pe_callB (call_isiZ t) hg hm rfl (pa_cons (ha P fit) (pa_cons ht pa_nil (star_cons rfl)) (star_cons hs)) (by decide) (by decide) (star_cons hs) rfl) fun σ H Q ⟨τ, Hs, ρ, R, E, q, k⟩ => ⟨τ, Hs, ρ, _, E, q, fun Hs1 H1 ρ1 v1 r1 g1 E1 q1 ⟨x, hx, hd, h⟩ => ?_⟩
  obtain ⟨Hs2, g2, E2, q2⟩ := q1.fz E1
  refine ⟨v1, x, rfl, E2.sysH, by rw [← fit.K]; exact (q2.rt E2 hx).rp E2.sub, hd, k Hs2 H1 ρ1 _ (.d (.bl (x.isTy t))) (g1.trans g2) E2 rfl h⟩
end
end Pz

set_option maxRecDepth 100000
set_option maxHeartbeats 4000000
/-! Pz, part 13: a def's text in short form, what it means, that it is this text. -/
namespace Pz
open PySem L2 PySem.Spec PyProof.Rows

inductive Fn where
  | len | repr | tuple | list | sorted | sum | max | min | all | any | int | str
  deriving DecidableEq
def Fn.nm : Fn → Str
  | .len => "len" | .repr => "repr" | .tuple => "tuple" | .list => "list" | .sorted => "sorted" | .sum => "sum" | .max => "max" | .min => "min" | .all => "all" | .any => "any" | .int => "int" | .str => "str"
def Fn.g : Fn → FN
  | .len => gLen | .repr => gRepr | .tuple => gTuple | .list => gList | .sorted => gSorted | .sum => gSum | .max => gMax | .min => gMin | .all => gAll | .any => gAny | .int => gInt | .str => gStr

inductive IE where
  | non
  | bl (b : Bool)
  | int (i : Int)
  | str (x : Str)
  | var (i : Nat)
  | bin (op : Operator) (a b : IE)
  | cmp (op : CmpOp) (a b : IE)
  | chn (op op' : CmpOp) (a b c : IE)
  | neg (a : IE)
  | not (a : IE)
  | and (es : List IE)
  | or (es : List IE)
  | ite (c a b : IE)
  | ix (a b : IE)
  | sl (a : IE) (lo hi : Option IE)
  | tup (es : List IE)
  | lst (es : List IE)
  | call (x : Str) (es : List IE)
  | kcall (x : Str) (ks : List Str) (es : List IE)
  | fn (f : Fn) (es : List IE)
  | isi (t : Ty) (a : IE)
  | mth (m : Mth) (o : IE) (es : List IE)
  | app (i : Nat) (a : IE)
  | ext (i : Nat) (a : IE)
  | pop (i : Nat)
  | dct (es : List IE)
  | lc (elt : IE) (tg : Tg) (k : Nat) (src : List IE) (ifs : List IE) (own : List (Str × Nat))
inductive IS where
  | set (i : Nat) (e : IE)
  | unp (tg : Tg) (e : IE)
  | par (is : List Nat) (es : List IE)
  | drop (e : IE)
  | ret (e : IE)
  | retN
  | ite (c : IE) (a b : List IS)
  | for_ (tg : Tg) (k : Nat) (src : List IE) (b : List IS)
  | whl (c : IE) (b : List IS)
  | brk
  | cnt
  | pass

/-! ### what it means -/
abbrev Ws := W × WT
def pl (w : W) : Ws := (w, wtv w)
def wBad : W := fun _ _ => False
def wiBad : WI := fun _ _ => False
def andW : List W → W
  | [] => wBad
  | [a] => a
  | a :: r => wAnd a (andW r)
def orW : List W → W
  | [] => wBad
  | [a] => a
  | a :: r => wOr a (orW r)
def andT : List WT → WT
  | [] => fun _ _ => False
  | [a] => a
  | a :: r => wtAnd a (andT r)
def orT : List WT → WT
  | [] => fun _ _ => False
  | [a] => a
  | a :: r => wtOr a (orT r)
def wisW : List W → WA
  | [] => waNil
  | a :: r => waCons a (wisW r)
def srcW : Nat → List W → WI
  | 0, [a] => wiSeq a
  | 1, [a] => wiRng1 a
  | 2, [a, b] => wiRng2 a b
  | 3, [a] => wiEnum a
  | _, _ => wiBad
def prs : List W → List (W × W)
  | a :: b :: r => (a, b) :: prs r
  | _ => []
def ifsW : List WT → WT
  | [] => wtYes
  | [t] => t
  | _ => fun _ _ => False
section
variable (F : Fs) (dk : Option (Addr × Addr))
mutual
def IE.sm : IE → Ws
  | .non => pl (wc .non)
  | .bl b => pl (wc (.bl b))
  | .int i => pl (wc (.int i))
  | .str x => pl (wc (.str x))
  | .var i => pl (wv i)
  | .bin op a b => pl (w2 a.sm.1 b.sm.1 (fBin op))
  | .cmp op a b => (w2 a.sm.1 b.sm.1 (fCmp op), wtCmp a.sm.1 b.sm.1 (fCmp op))
  | .chn op op' a b c => (wChain a.sm.1 b.sm.1 c.sm.1 (fCmp op) (fCmp op'), wtChain a.sm.1 b.sm.1 c.sm.1 (fCmp op) (fCmp op'))
  | .neg a => pl (w1 a.sm.1 fNeg)
  | .not a => (wNot a.sm.1, wtNot a.sm.2)
  | .and es => (andW ((IE.sms es).map (·.1)), andT ((IE.sms es).map (·.2)))
  | .or es => (orW ((IE.sms es).map (·.1)), orT ((IE.sms es).map (·.2)))
  | .ite c a b => pl (wIf c.sm.2 a.sm.1 b.sm.1)
  | .ix a b => pl (w2 a.sm.1 b.sm.1 fIx)
  | .sl a lo hi => pl (wSl a.sm.1 (IE.smo lo) (IE.smo hi))
  | .tup es => pl (wTup (wisW ((IE.sms es).map (·.1))))
  | .lst es => pl (wLst (wisW ((IE.sms es).map (·.1))))
  | .call x es => pl (match F.fn x with
    | some i => wCall dk i (wisW ((IE.sms es).map (·.1)))
    | none => wBad)
  | .kcall x ks es => pl (match F.kw x ks with
    | some i => wCall dk i (wisW ((IE.sms es).map (·.1)))
    | none => wBad)
  | .fn f es => pl (wN (wisW ((IE.sms es).map (·.1))) f.g)
  | .isi t a => pl (wIsi t a.sm.1)
  | .mth m o es => pl (wMth m o.sm.1 (wisW ((IE.sms es).map (·.1))))
  | .app i a => pl (wApp i a.sm.1)
  | .ext i a => pl (wExt i a.sm.1)
  | .pop i => pl (wPop i)
  | .dct [] => pl wDct0
  | .dct (e :: es) => pl (wDct (prs ((IE.sms (e :: es)).map (·.1))))
  | .lc elt tg k src ifs own => pl (wLc (srcW k ((IE.sms src).map (·.1))) tg.set (own.map (·.2)) (ifsW ((IE.sms ifs).map (·.2))) elt.sm.1)
def IE.sms : List IE → List Ws
  | [] => []
  | e :: es => e.sm :: IE.sms es
def IE.smo : Option IE → WO
  | none => woNo
  | some e => woE e.sm.1
end
def IE.ws (es : List IE) : List W := (IE.sms F dk es).map (·.1)
mutual
def IS.sm : IS → WS
  | .set i e => wSet i (e.sm F dk).1
  | .unp tg e => wUnp tg.set (e.sm F dk).1
  | .par is es => wPar is ((IE.sms F dk es).map (·.1))
  | .drop e => wDrop (e.sm F dk).1
  | .ret e => wRet (e.sm F dk).1
  | .retN => wRet (wc .non)
  | .ite c a b => wIfS (c.sm F dk).2 (IS.sms a) (IS.sms b)
  | .for_ tg k src b => wFor (srcW k ((IE.sms F dk src).map (·.1))) tg.set (IS.sms b)
  | .whl c b => wWhile (c.sm F dk).2 (IS.sms b)
  | .brk => wBrk
  | .cnt => wCnt
  | .pass => wNext
def IS.sms : List IS → WS
  | [] => wNext
  | s :: r => wSeq s.sm (IS.sms r)
end
end

/-! ### the text at hand -/
def Sx.vis (c : Sx) (i : Nat) (x : Str) : Bool := decide (c.N[i]? = some x) && (decide (c.sc.names.lookup x = some .local) || decide (c.sc.names.lookup x = some .cell) || decide (c.sc.names.lookup x = some .free)) && !(x == "__debug__") && !(x == "__classdict__")
def Sx.loc (c : Sx) (i : Nat) (x : Str) : Bool := decide (c.N[i]? = some x) && (decide (c.sc.names.lookup x = some .local) || (decide (c.sc.names.lookup x = some .cell) && c.fb x))
def Sx.gl (c : Sx) (x : Str) : Bool := decide (c.sc.names.lookup x = some .globalImplicit)
def blkB (c : Sx) (scope : Scope) (own : List (Str × Nat)) : Bool :=
  decide (scope.kind = .function) && scope.names.all (fun y => decide (scope.names.lookup y.1 = some y.2)) && own.all (fun p => decide (c.N[p.2]? = some p.1)) &&
  scope.names.all (fun y => !decide (y.2 = .free) || (decide (c.sc.names.lookup y.1 = some .cell) || decide (c.sc.names.lookup y.1 = some .free))) &&
  scope.names.all (fun y => !(decide (y.2 = .local) || decide (y.2 = .cell)) || (decide (y.1 ∈ own.map (·.1)) || decide (y.1 ∉ c.N)))
mutual
def chkG (c : Sx) : Tg → Expr → Bool
  | .nm i, .Name x _ => c.loc i x
  | .tup ts, .Tuple es _ _ => chkGs c ts es
  | _, _ => false
def chkGs (c : Sx) : List Tg → List Expr → Bool
  | [], [] => true
  | t :: ts, e :: es => chkG c t e && chkGs c ts es
  | _, _ => false
end
def okM (m : Bool) (e : Expr) : Bool := !m || plainT e
def plainIxB : Expr → Bool
  | .Slice .. => false
  | .Tuple .. => false
  | _ => true
def noSet : Expr → Bool
  | .Set .. => false
  | _ => true
mutual
def chk (m : Bool) (c : Sx) : IE → Expr → Bool
  | .non, .Constant .none _ _ => !m
  | .bl b, .Constant (.bool b') _ _ => !m && decide (b = b')
  | .int i, .Constant (.int j) _ _ => !m && decide (i = j)
  | .str x, .Constant (.str y) _ _ => !m && decide (x = y)
  | .var i, .Name x _ => c.vis i x
  | .bin op a b, .BinOp x op' y _ => decide (op = op') && (chk false c a x && chk false c b y)
  | .cmp op a b, .Compare x [op'] [y] _ => decide (op = op') && !behindInMarks op y && (chk false c a x && chk false c b y)
  | .chn op1 op2 a b d, .Compare x [op1', op2'] [y, z] _ => decide (op1 = op1') && decide (op2 = op2') && !lastMarks [op1, op2] [y, z] && (chk false c a x && (chk false c b y && chk false c d z))
  | .neg a, .UnaryOp .USub x _ => !m && chk false c a x
  | .not a, .UnaryOp .Not x _ => chk m c a x
  | .and es, .BoolOp .And xs _ => !es.isEmpty && chks m c es xs
  | .or es, .BoolOp .Or xs _ => !es.isEmpty && chks m c es xs
  | .ite t a b, .IfExp x y z _ => !m && (chk true c t x && (chk false c a y && chk false c b z))
  | .ix a b, .Subscript x y _ => plainIxB y && (chk false c a x && chk false c b y)
  | .sl a lo hi, .Subscript x (.Slice l h none _) _ => chk false c a x && (chko c lo l && chko c hi h)
  | .tup es, .Tuple xs _ _ => !m && (xs.all noStar && chks false c es xs)
  | .lst es, .List xs _ => !m && (xs.all noStar && chks false c es xs)
  | .call x (e :: es), .Call (.Name y _) (z :: zs) [] _ => decide (x = y) && c.gl y && !(y == "__debug__") && (z :: zs).all noStar && chks false c (e :: es) (z :: zs)
  | .kcall x ks es, .Call (.Name y _) [] kws _ => decide (x = y) && c.gl y && !(y == "__debug__") && decide (kws.map (·.arg) = ks.map some) && chks false c es (kws.map (·.value))
  | .fn f (e :: es), .Call (.Name y _) (z :: zs) [] _ => decide (y = f.nm) && c.gl y && (z :: zs).all noStar && chks false c (e :: es) (z :: zs)
  | .isi t a, .Call (.Name y _) [x, .Name z _] [] _ => decide (y = "isinstance") && decide (z = t.nmS) && c.gl y && c.gl z && noStar x && chk false c a x
  | .mth k o [], .Call (.Attribute x nm ap) [] [] cp => decide (nm = k.nm) && plainO x && (ap.endLine == cp.line) && chk false c o x
  | .mth k o (e :: es), .Call (.Attribute x nm ap) (z :: zs) [] cp => decide (nm = k.nm) && plainO x && (ap.endLine == cp.line) && (z :: zs).all noStar && decide ((z :: zs).length < 30) && (chk false c o x && chks false c (e :: es) (z :: zs))
  | .app i a, .Call (.Attribute (.Name x _) nm ap) [y] [] cp => decide (nm = "append") && c.vis i x && (ap.endLine == cp.line) && noStar y && chk false c a y
  | .ext i a, .Call (.Attribute (.Name x _) nm ap) [y] [] cp => decide (nm = "extend") && c.vis i x && (ap.endLine == cp.line) && noStar y && chk false c a y
  | .pop i, .Call (.Attribute (.Name x _) nm ap) [] [] cp => decide (nm = "pop") && c.vis i x && (ap.endLine == cp.line)
  | .dct [], .Dict [] [] _ => !m
  | .dct (e :: es), .Dict ks vs _ => !m && decide (ks.length ≤ 15) && chkD c (e :: es) ks vs
  | .lc elt tg k src ifs own, .ListComp x [⟨tg', iter, ifs', 0⟩] scope _ => !m && decide (ifs'.length ≤ 1) && blkB c scope own && tg.ixs.all (fun j => decide (j ∈ own.map (·.2))) && noSet iter && chkG (c.blk scope) tg tg' && (chkI c k src tg' iter && (chks true (c.blk scope) ifs ifs' && chk false (c.blk scope) elt x))
  | _, _ => false
def chks (m : Bool) (c : Sx) : List IE → List Expr → Bool
  | [], [] => true
  | e :: es, x :: xs => chk m c e x && chks m c es xs
  | _, _ => false
def chko (c : Sx) : Option IE → Option Expr → Bool
  | none, none => true
  | some e, some x => chk false c e x
  | _, _ => false
def chkD (c : Sx) : List IE → List (Option Expr) → List Expr → Bool
  | [], [], [] => true
  | a :: b :: es, some k :: ks, v :: vs => chk false c a k && (chk false c b v && chkD c es ks vs)
  | _, _, _ => false
def chkI (c : Sx) : Nat → List IE → Expr → Expr → Bool
  | 0, [a], _, x => chk false c a x
  | 1, [a], _, .Call (.Name y _) [x] [] _ => decide (y = "range") && c.gl y && noStar x && chk false c a x
  | 2, [a, b], _, .Call (.Name y _) [x, z] [] _ => decide (y = "range") && c.gl y && noStar x && noStar z && (chk false c a x && chk false c b z)
  | 3, [a], .Tuple _ _ _, .Call (.Name y _) [x] [] _ => decide (y = "enumerate") && c.gl y && noStar x && chk false c a x
  | _, _, _, _ => false
end
end Pz

set_option maxRecDepth 100000
set_option maxHeartbeats 4000000
/-! Pz, part 14: the short form is true of the text: expressions. -/
namespace Pz
open PySem L2 PySem.Spec PyProof.Rows

section
variable {Γ : Gam} {c : Sx} {X : Cx} {i : Nat} {x : Str} {dk : Option (Addr × Addr)}
theorem vis_ok (G : Good Γ c X) (h : c.vis i x = true) : X.N[i]? = some x ∧ Vis X.env.scope x ∧ (x == ("__debug__" : Str)) = false ∧ (x == ("__classdict__" : Str)) = false := by
  simp only [Sx.vis, Bool.and_eq_true, Bool.or_eq_true, decide_eq_true_eq, Bool.not_eq_true'] at h
  obtain ⟨⟨⟨h1, h2⟩, h3⟩, h4⟩ := h
  rw [G.N]
  refine ⟨h1, ?_, h3, h4⟩
  unfold Vis
  rw [G.sc]
  rcases h2 with (h | h) | h
  · exact .inl h
  · exact .inr (.inl h)
  · exact .inr (.inr h)
theorem loc_ok (G : Good Γ c X) (h : c.loc i x = true) : X.N[i]? = some x ∧ L2.Loc X.env.scope x ∧ (X.fn x = true ∨ X.env.scope.names.lookup x = some .local) := by
  simp only [Sx.loc, Bool.and_eq_true, Bool.or_eq_true, decide_eq_true_eq] at h
  obtain ⟨h1, h2⟩ := h
  rw [G.N]
  unfold L2.Loc
  rw [G.sc, G.fb]
  rcases h2 with h | ⟨h, h'⟩
  · exact ⟨h1, .inl h, .inr h⟩
  · exact ⟨h1, .inr h, .inl h'⟩
theorem gl_ok (G : Good Γ c X) (h : c.gl x = true) : Gl X x := by
  simp only [Sx.gl, decide_eq_true_eq] at h
  unfold Gl Env.kindOf
  rw [G.sc]; exact h
theorem mg_none (ok : Γ.Ok) (G : Good Γ c X) (h : x ∈ blts) : X.mg x = none := by rw [G.mg]; exact ok.nb x h
theorem fold_ok {e : Expr} (h : noSet e = true) (env : Env) : ∀ x, foldedSetIterable e env x = pure x := by
  cases e <;> first | (intro _; rfl) | (exact absurd h (by simp [noSet]))
theorem plainIx_ok {b : Expr} (h : plainIxB b = true) : PlainIx b := by
  cases b <;> first | (intro _ _; rfl) | (exact absurd h (by simp [plainIxB]))
theorem blk_ok (G : Good Γ c X) {scope : Scope} {own : List (Str × Nat)} (h : blkB c scope own = true) : BlkOk X.N X.env.scope scope own := by
  simp only [blkB, Bool.and_eq_true, List.all_eq_true, decide_eq_true_eq, Bool.or_eq_true, Bool.not_eq_true', decide_eq_false_iff_not] at h
  obtain ⟨⟨⟨⟨h1, h2⟩, h3⟩, h4⟩, h5⟩ := h
  rw [G.N, G.sc]
  refine ⟨h1, h2, h3, fun y hy e => ?_, fun y hy e => ?_⟩
  · rcases h4 y hy with z | z
    · exact absurd e z
    · exact z
  · rcases h5 y hy with z | z
    · rcases e with e | e <;> simp [e] at z
    · exact z
theorem je_bad {e : Expr} {t : TE} (h : PE X e t) : JE X dk e wBad := fun P fit => pe_weak h fun σ H Q ⟨τ, Hs, ρ, R, E, q, k⟩ => q.elim
theorem je_bad' {e : Expr} : JE X dk e wBad := fun P fit => ⟨fun pins s σ H Q I ⟨τ, Hs, ρ, R, E, q, k⟩ => q.elim⟩

/-! ### lists -/
inductive AllE (X : Cx) (dk : Option (Addr × Addr)) : List Expr → List W → Prop
  | nil : AllE X dk [] []
  | cons {e : Expr} {es : List Expr} {w : W} {ws : List W} : JE X dk e w → AllE X dk es ws → AllE X dk (e :: es) (w :: ws)
inductive AllT (X : Cx) (dk : Option (Addr × Addr)) : List Expr → List WT → Prop
  | nil : AllT X dk [] []
  | cons {e : Expr} {es : List Expr} {w : WT} {ws : List WT} : JT X dk e w → AllT X dk es ws → AllT X dk (e :: es) (w :: ws)
theorem AllE.ja {es : List Expr} {ws : List W} (h : AllE X dk es ws) : es.all noStar = true → JA X dk es (wisW ws) := by
  induction h with
  | nil => intro _; exact ja_nil
  | cons h1 _ ih =>
    intro hs
    rw [List.all_cons, Bool.and_eq_true] at hs
    exact ja_cons h1 (ih hs.2) (star_cons hs.1)
theorem AllE.jk : ∀ {kws : List Keyword} {ws : List W}, AllE X dk (kws.map (·.value)) ws → JK X dk kws (wisW ws)
  | [], _, h => by cases h; exact jk_nil
  | ⟨nm, e, p⟩ :: kws, _, h => by
    cases h with
    | cons h1 h2 => exact jk_cons h1 (AllE.jk h2)
theorem AllE.and {e : Expr} {es : List Expr} {ws : List W} {pos : Pos} (h : AllE X dk (e :: es) ws) : JE X dk (.BoolOp .And (e :: es) pos) (andW ws) := by
  induction es generalizing e ws with
  | nil =>
    cases h with
    | cons h1 h2 =>
      cases h2
      exact je_one h1
  | cons e2 es ih =>
    cases h with
    | cons h1 h2 =>
      have h3 := ih h2
      cases h2
      exact je_and h1 h3
theorem AllE.or {e : Expr} {es : List Expr} {ws : List W} {pos : Pos} (h : AllE X dk (e :: es) ws) : JE X dk (.BoolOp .Or (e :: es) pos) (orW ws) := by
  induction es generalizing e ws with
  | nil =>
    cases h with
    | cons h1 h2 =>
      cases h2
      exact je_one h1
  | cons e2 es ih =>
    cases h with
    | cons h1 h2 =>
      have h3 := ih h2
      cases h2
      exact je_or h1 h3
theorem AllT.and {e : Expr} {es : List Expr} {ws : List WT} {pos : Pos} (h : AllT X dk (e :: es) ws) : JW X dk (.BoolOp .And (e :: es) pos) (andT ws) := by
  induction es generalizing e ws with
  | nil =>
    cases h with
    | cons h1 h2 =>
      cases h2
      exact jw_and1 h1
  | cons e2 es ih =>
    cases h with
    | cons h1 h2 =>
      have h3 := ih h2
      cases h2
      exact jw_and h1 h3
theorem AllT.or {e : Expr} {es : List Expr} {ws : List WT} {pos : Pos} (h : AllT X dk (e :: es) ws) : JW X dk (.BoolOp .Or (e :: es) pos) (orT ws) := by
  induction es generalizing e ws with
  | nil =>
    cases h with
    | cons h1 h2 =>
      cases h2
      exact jw_or1 h1
  | cons e2 es ih =>
    cases h with
    | cons h1 h2 =>
      have h3 := ih h2
      cases h2
      exact jw_or h1 h3
theorem AllT.ifs {es : List Expr} {ws : List WT} (h : AllT X dk es ws) : es.length ≤ 1 → JTs X dk es (ifsW ws) := by
  intro hl
  cases h with
  | nil => exact jts_nil
  | cons h1 h2 =>
    cases h2 with
    | nil => exact jts_one h1
    | cons _ _ => simp at hl

/-! ### targets -/
theorem each_ok {c : Sx} : ∀ {ts : List Tg} {es : List Expr} {env : Env}, chkGs c ts es = true → (assignEach es env).length = ts.length ∧ (assignEach es env).findIdx? (·.1) = none ∧ ∀ e r, es = e :: r → (assignEach (e :: r) env).map (·.2) = assign e env :: (assignEach r env).map (·.2)
  | [], [], _, _ => ⟨rfl, rfl, fun _ _ h => nomatch h⟩
  | t :: ts, e :: es, env, h => by
    simp only [chkGs, Bool.and_eq_true] at h
    obtain ⟨i1, i2, _⟩ := each_ok (env := env) h.2
    have he : assignEach (e :: es) env = (false, assign e env) :: assignEach es env := by
      cases t with
      | nm i => cases e <;> first | rfl | simp [chkG] at h
      | tup ts => cases e <;> first | rfl | simp [chkG] at h
    rw [he]
    refine ⟨by simp [i1], by simp [List.findIdx?_cons, i2], fun e' r hr => ?_⟩
    cases hr
    rw [he]; rfl
  | [], _ :: _, _, h => by simp [chkGs] at h
  | _ :: _, [], _, h => by simp [chkGs] at h
mutual
theorem chkG_ok (G : Good Γ c X) : ∀ (t : Tg) (x : Expr), chkG c t x = true → JG X dk x t.ixs t.set
  | .nm i, x, h => by
    cases x <;> first | (simp [chkG] at h; done) | skip
    simp only [chkG] at h
    obtain ⟨h1, h2, h3⟩ := loc_ok G h
    exact jg_nm (by rw [G.N]; exact G.nd) h1 h2 h3
  | .tup ts, x, h => by
    cases x <;> first | (simp [chkG] at h; done) | skip
    simp only [chkG] at h
    obtain ⟨h1, h2, _⟩ := each_ok (env := X.env) h
    exact jg_tup G.calm (chkGs_ok G ts _ h) h1 h2
theorem chkGs_ok (G : Good Γ c X) : ∀ (ts : List Tg) (xs : List Expr), chkGs c ts xs = true → JGs X dk xs (Tg.ixsL ts) (Tg.sets ts)
  | [], [], _ => jgs_nil
  | t :: ts, x :: xs, h => by
    obtain ⟨_, _, h3⟩ := each_ok (env := X.env) h
    simp only [chkGs, Bool.and_eq_true] at h
    exact jgs_cons (chkG_ok G t x h.1) (chkGs_ok G ts xs h.2) (h3 _ _ rfl)
  | [], _ :: _, h => by simp [chkGs] at h
  | _ :: _, [], h => by simp [chkGs] at h
end

/-! ### built-in functions -/
theorem fn_ok (ok : Γ.Ok) (G : Good Γ c X) (f : Fn) {e : Expr} {es : List Expr} {t : WA} {p pos : Pos} (hg : Gl X f.nm) (ha : JA X dk (e :: es) t) (hs : (e :: es).all noStar = true) : JE X dk (.Call (.Name f.nm p) (e :: es) [] pos) (wN t f.g) := by
  have hs' := hs
  rw [List.all_cons, Bool.and_eq_true] at hs'
  have hm : X.mg f.nm = none := mg_none ok G (by cases f <;> decide +kernel)
  have h1 := star_cons (es := es) (env := X.env) hs'.1
  have h2 := star_plain (pos := pos) (env := X.env) hs'.2
  have hu := G.hu
  have cB : ∀ {id : String} {g : FN}, bootBuiltins f.nm = some (.builtin id) → Bfn X (.builtin id) g → JE X dk (.Call (.Name f.nm p) (e :: es) [] pos) (wN t g) := fun {id g} hb hf =>
    je_fn hf ha fun r ta hr hp => pe_callB hr hg hm hb hp (by cases f <;> decide) (by cases f <;> decide) h1 h2
  have cT : ∀ {id : String} {g : FN}, bootBuiltins f.nm = some (.type id) → Bfn X (.type id) g → JE X dk (.Call (.Name f.nm p) (e :: es) [] pos) (wN t g) := fun {id g} hb hf =>
    je_fn hf ha fun r ta hr hp => pe_callTy hr hg hm hb hp (by cases f <;> decide) (by cases f <;> decide) h1 h2
  cases f with
  | len => exact cB rfl b_len
  | repr => exact cB rfl (b_repr hu G.gd)
  | tuple => exact cT rfl b_tuple
  | list => exact cT rfl b_list
  | sorted => exact cB rfl (b_sorted hu)
  | sum => exact cB rfl (b_sum G.calm)
  | max => exact cB rfl (b_max G.calm)
  | min => exact cB rfl (b_min G.calm)
  | all => exact cB rfl (b_all G.calm)
  | any => exact cB rfl (b_any G.calm)
  | int => exact cT rfl b_int
  | str => exact cT rfl b_str
theorem both {m : Bool} {e : Expr} {w : W} (h : JE X dk e w) (hp : plainT e = true) : (m = false → JE X dk e (pl w).1) ∧ (m = true → JT X dk e (pl w).2) := ⟨fun _ => h, fun _ => jt_tv h hp⟩
theorem only {m : Bool} {e : Expr} {w : W} (h : JE X dk e w) (hp : m = false) : (m = false → JE X dk e (pl w).1) ∧ (m = true → JT X dk e (pl w).2) := ⟨fun _ => h, fun z => by rw [hp] at z; cases z⟩
theorem chks_len {m : Bool} {c : Sx} : ∀ {es : List IE} {xs : List Expr}, chks m c es xs = true → es.length = xs.length
  | [], [], _ => rfl
  | e :: es, x :: xs, h => by simp only [chks, Bool.and_eq_true] at h; simp [chks_len h.2]
  | [], _ :: _, h => by simp [chks] at h
  | _ :: _, [], h => by simp [chks] at h
end
section
variable {Γ : Gam}
mutual
theorem chk_ok (ok : Γ.Ok) {c : Sx} {X : Cx} (G : Good Γ c X) {m : Bool} (e : IE) {x : Expr} (h : chk m c e x = true) : (m = false → JE X Γ.dk x (e.sm Γ.F Γ.dk).1) ∧ (m = true → JT X Γ.dk x (e.sm Γ.F Γ.dk).2) := by
  have hu := G.hu
  unfold chk at h
  split at h
  all_goals try simp only [IE.sm]
  · exact only je_non (by simpa using h)
  · simp only [Bool.and_eq_true, Bool.not_eq_true', decide_eq_true_eq] at h
    obtain ⟨hm, rfl⟩ := h
    exact only je_bl hm
  · simp only [Bool.and_eq_true, Bool.not_eq_true', decide_eq_true_eq] at h
    obtain ⟨hm, rfl⟩ := h
    exact only je_int hm
  · simp only [Bool.and_eq_true, Bool.not_eq_true', decide_eq_true_eq] at h
    obtain ⟨hm, rfl⟩ := h
    exact only je_str hm
  · obtain ⟨h1, h2, h3, h4⟩ := vis_ok G h
    exact both (je_var h1 h2 h3 h4) rfl
  · simp only [Bool.and_eq_true, decide_eq_true_eq] at h
    obtain ⟨rfl, h1, h2⟩ := h
    exact both (je_bin ((chk_ok ok G _ h1).1 rfl) ((chk_ok ok G _ h2).1 rfl)) rfl
  · simp only [Bool.and_eq_true, Bool.not_eq_true', decide_eq_true_eq] at h
    obtain ⟨⟨rfl, hm⟩, h1, h2⟩ := h
    exact ⟨fun _ => je_cmp hu ((chk_ok ok G _ h1).1 rfl) ((chk_ok ok G _ h2).1 rfl) hm, fun _ => jt_cmp hu ((chk_ok ok G _ h1).1 rfl) ((chk_ok ok G _ h2).1 rfl) hm⟩
  · simp only [Bool.and_eq_true, Bool.not_eq_true', decide_eq_true_eq] at h
    obtain ⟨⟨⟨rfl, rfl⟩, hm⟩, h1, h2, h3⟩ := h
    exact ⟨fun _ => je_chain hu ((chk_ok ok G _ h1).1 rfl) ((chk_ok ok G _ h2).1 rfl) ((chk_ok ok G _ h3).1 rfl) hm, fun _ => jt_chain hu ((chk_ok ok G _ h1).1 rfl) ((chk_ok ok G _ h2).1 rfl) ((chk_ok ok G _ h3).1 rfl) hm⟩
  · simp only [Bool.and_eq_true, Bool.not_eq_true'] at h
    exact only (je_neg ((chk_ok ok G _ h.2).1 rfl)) h.1
  · have := chk_ok ok G _ h
    cases m with
    | false => exact ⟨fun _ => je_not (this.1 rfl), fun z => by cases z⟩
    | true => exact ⟨(fun z => by cases z), fun _ => jt_not (this.2 rfl)⟩
  · rename_i es xs pos
    simp only [Bool.and_eq_true] at h
    obtain ⟨h0, h⟩ := h
    have hs := chks_ok ok G _ h
    have hl := chks_len h
    cases es with
    | nil => simp at h0
    | cons e es =>
      cases xs with
      | nil => simp at hl
      | cons x xs => exact ⟨fun z => (hs.1 z).and, fun z => jt_of (hs.2 z).and⟩
  · rename_i es xs pos
    simp only [Bool.and_eq_true] at h
    obtain ⟨h0, h⟩ := h
    have hs := chks_ok ok G _ h
    have hl := chks_len h
    cases es with
    | nil => simp at h0
    | cons e es =>
      cases xs with
      | nil => simp at hl
      | cons x xs => exact ⟨fun z => (hs.1 z).or, fun z => jt_of (hs.2 z).or⟩
  · simp only [Bool.and_eq_true, Bool.not_eq_true'] at h
    obtain ⟨hm, h1, h2, h3⟩ := h
    exact only (je_if ((chk_ok ok G _ h1).2 rfl) ((chk_ok ok G _ h2).1 rfl) ((chk_ok ok G _ h3).1 rfl)) hm
  · simp only [Bool.and_eq_true] at h
    obtain ⟨h0, h1, h2⟩ := h
    exact both (je_ix hu ((chk_ok ok G _ h1).1 rfl) ((chk_ok ok G _ h2).1 rfl) (plainIx_ok h0)) rfl
  · simp only [Bool.and_eq_true] at h
    obtain ⟨h1, h2, h3⟩ := h
    exact both (je_sl ((chk_ok ok G _ h1).1 rfl) (chko_ok ok G _ h2) (chko_ok ok G _ h3)) rfl
  · simp only [Bool.and_eq_true, Bool.not_eq_true'] at h
    obtain ⟨hm, h1, h2⟩ := h
    exact only (je_tup (((chks_ok ok G _ h2).1 rfl).ja h1)) hm
  · simp only [Bool.and_eq_true, Bool.not_eq_true'] at h
    obtain ⟨hm, h1, h2⟩ := h
    exact only (je_lst (((chks_ok ok G _ h2).1 rfl).ja h1)) hm
  · simp only [Bool.and_eq_true, Bool.not_eq_true', decide_eq_true_eq] at h
    obtain ⟨⟨⟨⟨rfl, hg⟩, hd⟩, hs⟩, h1⟩ := h
    have ha := ((chks_ok ok G _ h1).1 rfl).ja hs
    refine both ?_ rfl
    split
    · rename_i hf
      rw [List.all_cons, Bool.and_eq_true] at hs
      exact je_call G (ok.fn _ _ hf) (gl_ok G hg) hd ha (star_cons hs.1) (star_plain hs.2)
    · exact je_bad'
  · simp only [Bool.and_eq_true, Bool.not_eq_true', decide_eq_true_eq] at h
    obtain ⟨⟨⟨⟨rfl, hg⟩, hd⟩, hn⟩, h1⟩ := h
    have ha := ((chks_ok ok G _ h1).1 rfl).jk
    refine both ?_ rfl
    split
    · rename_i hf
      exact je_kcall G (ok.kw _ _ _ hf) (gl_ok G hg) hd ha hn
    · exact je_bad'
  · simp only [Bool.and_eq_true, Bool.not_eq_true', decide_eq_true_eq] at h
    obtain ⟨⟨⟨rfl, hg⟩, hs⟩, h1⟩ := h
    exact both (fn_ok ok G _ (gl_ok G hg) (((chks_ok ok G _ h1).1 rfl).ja hs) hs) rfl
  · simp only [Bool.and_eq_true, Bool.not_eq_true', decide_eq_true_eq] at h
    obtain ⟨⟨⟨⟨⟨rfl, rfl⟩, hg⟩, hg2⟩, hs⟩, h1⟩ := h
    rename_i t _ _ _ _ _
    exact both (je_isi t (gl_ok G hg) (mg_none ok G (by decide +kernel)) (gl_ok G hg2) (mg_none ok G (by cases t <;> decide +kernel)) ((chk_ok ok G _ h1).1 rfl) hs) rfl
  · simp only [Bool.and_eq_true, Bool.not_eq_true', decide_eq_true_eq] at h
    obtain ⟨⟨⟨rfl, hb⟩, hl⟩, h1⟩ := h
    exact both (je_mth0 _ ((chk_ok ok G _ h1).1 rfl) hb hl) rfl
  · simp only [Bool.and_eq_true, Bool.not_eq_true', decide_eq_true_eq] at h
    obtain ⟨⟨⟨⟨⟨rfl, hb⟩, hl⟩, hs⟩, hn⟩, h1, h2⟩ := h
    exact both (je_mth _ ((chk_ok ok G _ h1).1 rfl) (((chks_ok ok G _ h2).1 rfl).ja hs) hb hl hs hn) rfl
  · simp only [Bool.and_eq_true, Bool.not_eq_true', decide_eq_true_eq] at h
    obtain ⟨⟨⟨⟨rfl, hv⟩, hl⟩, hs⟩, h1⟩ := h
    obtain ⟨v1, v2, v3, v4⟩ := vis_ok G hv
    exact both (je_app v1 v2 v3 v4 ((chk_ok ok G _ h1).1 rfl) hl hs) rfl
  · simp only [Bool.and_eq_true, Bool.not_eq_true', decide_eq_true_eq] at h
    obtain ⟨⟨⟨⟨rfl, hv⟩, hl⟩, hs⟩, h1⟩ := h
    obtain ⟨v1, v2, v3, v4⟩ := vis_ok G hv
    exact both (je_ext v1 v2 v3 v4 ((chk_ok ok G _ h1).1 rfl) hl hs) rfl
  · simp only [Bool.and_eq_true, Bool.not_eq_true', decide_eq_true_eq] at h
    obtain ⟨⟨rfl, hv⟩, hl⟩ := h
    obtain ⟨v1, v2, v3, v4⟩ := vis_ok G hv
    exact both (je_pop v1 v2 v3 v4 hl) rfl
  · exact only je_dct0 (by simpa using h)
  · simp only [Bool.and_eq_true, Bool.not_eq_true', decide_eq_true_eq] at h
    obtain ⟨⟨hm, h15⟩, h1⟩ := h
    exact only (je_dct (chkD_ok ok G _ h1) (fun z => by rw [z] at h1; simp [chkD] at h1) h15) hm
  · simp only [Bool.and_eq_true, Bool.not_eq_true', decide_eq_true_eq, List.all_eq_true] at h
    obtain ⟨⟨⟨⟨⟨⟨hm, h1⟩, hb⟩, hw⟩, hn⟩, hg⟩, hi, ht, he⟩ := h
    exact only (je_lc G (chkI_ok ok G _ hi) (blk_ok G hb) hw (fun X' G' => chkG_ok G' _ _ hg) (fun X' G' => ((chks_ok ok G' _ ht).2 rfl).ifs h1) (fun X' G' => (chk_ok ok G' _ he).1 rfl) (fold_ok hn _)) hm
  · cases h
termination_by sizeOf e
theorem chks_ok (ok : Γ.Ok) {c : Sx} {X : Cx} (G : Good Γ c X) {m : Bool} (es : List IE) {xs : List Expr} (h : chks m c es xs = true) : (m = false → AllE X Γ.dk xs ((IE.sms Γ.F Γ.dk es).map (·.1))) ∧ (m = true → AllT X Γ.dk xs ((IE.sms Γ.F Γ.dk es).map (·.2))) := by
  unfold chks at h
  split at h
  · exact ⟨fun _ => .nil, fun _ => .nil⟩
  · simp only [Bool.and_eq_true] at h
    obtain ⟨h1, h2⟩ := h
    have a := chk_ok ok G _ h1
    have b := chks_ok ok G _ h2
    exact ⟨fun z => .cons (a.1 z) (b.1 z), fun z => .cons (a.2 z) (b.2 z)⟩
  · cases h
termination_by sizeOf es
theorem chko_ok (ok : Γ.Ok) {c : Sx} {X : Cx} (G : Good Γ c X) (o : Option IE) {x : Option Expr} (h : chko c o x = true) : JO X Γ.dk x (IE.smo Γ.F Γ.dk o) := by
  unfold chko at h
  split at h
  · exact jo_no
  · exact jo_e ((chk_ok ok G _ h).1 rfl)
  · cases h
termination_by sizeOf o
theorem chkD_ok (ok : Γ.Ok) {c : Sx} {X : Cx} (G : Good Γ c X) (es : List IE) {ks : List (Option Expr)} {vs : List Expr} (h : chkD c es ks vs = true) : JPs X Γ.dk ks vs (prs ((IE.sms Γ.F Γ.dk es).map (·.1))) := by
  unfold chkD at h
  split at h
  · exact .nil
  · simp only [Bool.and_eq_true] at h
    obtain ⟨h1, h2, h3⟩ := h
    exact .cons ((chk_ok ok G _ h1).1 rfl) ((chk_ok ok G _ h2).1 rfl) (chkD_ok ok G _ h3)
  · cases h
termination_by sizeOf es
theorem chkI_ok (ok : Γ.Ok) {c : Sx} {X : Cx} (G : Good Γ c X) {k : Nat} (es : List IE) {tg it : Expr} (h : chkI c k es tg it = true) : JI X Γ.dk tg it (srcW k ((IE.sms Γ.F Γ.dk es).map (·.1))) := by
  unfold chkI at h
  split at h
  · exact ji_seq ((chk_ok ok G _ h).1 rfl)
  · simp only [Bool.and_eq_true, decide_eq_true_eq] at h
    obtain ⟨⟨⟨rfl, hg⟩, hs⟩, h1⟩ := h
    exact ji_rng1 (gl_ok G hg) (mg_none ok G (by decide +kernel)) ((chk_ok ok G _ h1).1 rfl) (star_cons hs)
  · simp only [Bool.and_eq_true, decide_eq_true_eq] at h
    obtain ⟨⟨⟨⟨rfl, hg⟩, hs⟩, hs2⟩, h1, h2⟩ := h
    exact ji_rng2 (gl_ok G hg) (mg_none ok G (by decide +kernel)) ((chk_ok ok G _ h1).1 rfl) ((chk_ok ok G _ h2).1 rfl) (star_cons hs) (star_cons hs2)
  · simp only [Bool.and_eq_true, decide_eq_true_eq] at h
    obtain ⟨⟨⟨rfl, hg⟩, hs⟩, h1⟩ := h
    exact ji_enum (gl_ok G hg) (mg_none ok G (by decide +kernel)) ((chk_ok ok G _ h1).1 rfl) (star_cons hs)
  · cases h
termination_by sizeOf es
end
end
end Pz

set_option maxRecDepth 100000
set_option maxHeartbeats 4000000
/-! Pz, part 15: statements, defs. -/
namespace Pz
open PySem L2 PySem.Spec PyProof.Rows

def noTup : Expr → Bool
  | .Tuple .. => false
  | _ => true
def isTup : Expr → Bool
  | .Tuple .. => true
  | _ => false
/-- stored by the comprehension itself -/
def swp (c : Sx) (x : Str) (px : Pos) : Expr → Bool
  | .ListComp _ _ s pos => decide (c.sc.names.lookup x = some .local) && (px.line == pos.line) && !(s.names.any fun (n, k) => n == x && (k == .local || k == .cell))
  | _ => false
def noDS : Expr → Bool
  | .SetComp .. => false
  | .DictComp .. => false
  | _ => true
def okKind (c : Sx) : Bool := decide (c.sc.kind = .function)
def parOk (xs : List (Str × Pos)) (vs : List Expr) : Bool := xs.all (fun p => p.2.line == (xs.head?.map (·.2.line)).getD 0) && decide ((xs.map (·.1)).Nodup) && vs.all noStar && !(vs.all (foldedForSure 8)) && !(vs.all (constantsAlone 8))
mutual
def chkS (c : Sx) : IS → Stmt → Bool
  | .set i e, .Assign [.Name x px] v _ => c.loc i x && okKind c && noDS v && chk false c e v
  | .unp tg e, .Assign [t] v _ => isTup t && noTup v && chkG c tg t && chk false c e v
  | .par [i, j] [a, b], .Assign [.Tuple [.Name x px, .Name y py] _ _] (.Tuple [v, w] _ _) _ => okKind c && decide (c.N[i]? = some x) && decide (c.N[j]? = some y) && decide (c.sc.names.lookup x = some .local) && decide (c.sc.names.lookup y = some .local) && decide (i ≠ j) && parOk [(x, px), (y, py)] [v, w] && (chk false c a v && chk false c b w)
  | .par [i, j, k] [a, b, d], .Assign [.Tuple [.Name x px, .Name y py, .Name z pz] _ _] (.Tuple [v, w, u] _ _) _ => okKind c && decide (c.N[i]? = some x) && decide (c.N[j]? = some y) && decide (c.N[k]? = some z) && decide (c.sc.names.lookup x = some .local) && decide (c.sc.names.lookup y = some .local) && decide (c.sc.names.lookup z = some .local) && decide (i ≠ j ∧ i ≠ k ∧ j ≠ k) && parOk [(x, px), (y, py), (z, pz)] [v, w, u] && (chk false c a v && (chk false c b w && chk false c d u))
  | .drop e, .Expr v _ => noComp v && chk false c e v
  | .ret e, .Return (some v) _ => chk false c e v
  | .retN, .Return none _ => true
  | .ite t a b, .If x p q _ => chk true c t x && (chkSs c a p && chkSs c b q)
  | .for_ tg k src b, .For t it body [] _ => noSet it && chkG c tg t && chkI c k src t it && chkSs c b body
  | .whl t b, .While x body [] _ => chk true c t x && chkSs c b body
  | .brk, .Break _ => true
  | .cnt, .Continue _ => true
  | .pass, .Pass _ => true
  | _, _ => false
def chkSs (c : Sx) : List IS → List Stmt → Bool
  | [], [] => true
  | s :: r, x :: xs => chkS c s x && chkSs c r xs
  | _, _ => false
end
section
variable {Γ : Gam} {c : Sx} {X : Cx}
theorem kind_ok (G : Good Γ c X) (h : okKind c = true) : X.env.scope.kind = .function := by
  simp only [okKind, decide_eq_true_eq] at h
  rw [G.sc]; exact h
theorem bk_ok (G : Good Γ c X) (h : okKind c = true) : X.env.blockKind = .function := by
  unfold Env.blockKind
  rw [kind_ok G h]; rfl
/-- when the comprehension stores by itself -/
theorem swap_lc (G : Good Γ c X) (hk : okKind c = true) {x : Str} {px : Pos} {v : Expr} {l : Nat} (h : noDS v = true) : swapsWith v (some (.Name x px)) l X.env = pure (swp c x px v) := by
  have hb := bk_ok G hk
  have hkd : X.env.kindOf x = c.sc.names.lookup x := by unfold Env.kindOf; rw [G.sc]
  have e1 : (ScopeKind.function == ScopeKind.function) = true := rfl
  cases v <;> first | rfl | (simp [noDS] at h; done) | skip
  rename_i elt gs s pos
  unfold swapsWith
  simp only [hb, hkd, swp]
  show (pure _ : Sem Bool) = _
  rw [e1, Bool.true_and]
  congr 3
  exact Bool.eq_iff_iff.mpr (by simp)
theorem star_no : ∀ {v : Expr}, noStar v = true → (match v with
    | .Starred .. => true
    | _ => false) = false := fun {v} h => by cases v <;> first | rfl | (simp [noStar] at h)
theorem par_ok2 (G : Good Γ c X) (hk : okKind c = true) {x y : Str} {px py pt pt2 : Pos} {v w : Expr} {kt k2 : Nat} (hx : c.sc.names.lookup x = some .local) (hy : c.sc.names.lookup y = some .local) (h : parOk [(x, px), (y, py)] [v, w] = true) :
    swappedStores [.Tuple [.Name x px, .Name y py] kt pt] (.Tuple [v, w] k2 pt2) X.env = pure (some [x, y]) := by
  have hb := bk_ok G hk
  have hkx : X.env.kindOf x = some .local := by unfold Env.kindOf; rw [G.sc]; exact hx
  have hky : X.env.kindOf y = some .local := by unfold Env.kindOf; rw [G.sc]; exact hy
  simp only [parOk, Bool.and_eq_true, Bool.not_eq_true', decide_eq_true_eq, List.all_cons, List.all_nil, Bool.and_true, List.map_cons, List.map_nil, List.head?_cons, Option.map_some, Option.getD_some] at h
  obtain ⟨⟨⟨⟨⟨h1, h2⟩, h3⟩, h4, h5⟩, h6⟩, h7⟩ := h
  have h2 : py.line = px.line := by simpa using h2
  have hne : x ≠ y := by
    have := (List.nodup_cons.mp h3).1
    simpa using this
  have hl : (px.line == px.line) = true := by simp
  have s1 := star_no h4
  have s2 := star_no h5
  unfold swappedStores
  simp [hb, hkx, hky, h2, s1, s2, h6, h7, Expr.pos, List.filterMap_cons, List.eraseDups_cons, hne, Ne.symm hne]
  intro z
  rcases z with z | z
  · exact absurd (s1.symm.trans z) (by decide)
  · exact absurd (s2.symm.trans z) (by decide)
theorem par_ok3 (G : Good Γ c X) (hk : okKind c = true) {x y z : Str} {px py pz pt pt2 : Pos} {v w u : Expr} {kt k2 : Nat} (hx : c.sc.names.lookup x = some .local) (hy : c.sc.names.lookup y = some .local) (hz : c.sc.names.lookup z = some .local) (h : parOk [(x, px), (y, py), (z, pz)] [v, w, u] = true) :
    swappedStores [.Tuple [.Name x px, .Name y py, .Name z pz] kt pt] (.Tuple [v, w, u] k2 pt2) X.env = pure (some [x, y, z]) := by
  have hb := bk_ok G hk
  have hkx : X.env.kindOf x = some .local := by unfold Env.kindOf; rw [G.sc]; exact hx
  have hky : X.env.kindOf y = some .local := by unfold Env.kindOf; rw [G.sc]; exact hy
  have hkz : X.env.kindOf z = some .local := by unfold Env.kindOf; rw [G.sc]; exact hz
  simp only [parOk, Bool.and_eq_true, Bool.not_eq_true', decide_eq_true_eq, List.all_cons, List.all_nil, Bool.and_true, List.map_cons, List.map_nil, List.head?_cons, Option.map_some, Option.getD_some] at h
  obtain ⟨⟨⟨⟨⟨h1, h2, h2'⟩, h3⟩, h4, h5, h5'⟩, h6⟩, h7⟩ := h
  have h2 : py.line = px.line := by simpa using h2
  have h2' : pz.line = px.line := by simpa using h2'
  have n1 := List.nodup_cons.mp h3
  have n2 := List.nodup_cons.mp n1.2
  have hxy : x ≠ y := fun e => n1.1 (by simp [e])
  have hxz : x ≠ z := fun e => n1.1 (by simp [e])
  have hyz : y ≠ z := fun e => n2.1 (by simp [e])
  have hl : (px.line == px.line) = true := by simp
  have s1 := star_no h4
  have s2 := star_no h5
  have s3 := star_no h5'
  unfold swappedStores
  simp [hb, hkx, hky, hkz, h2, h2', s1, s2, s3, h6, h7, Expr.pos, List.filterMap_cons, List.eraseDups_cons, hxy, hxz, hyz, Ne.symm hxy, Ne.symm hxz, Ne.symm hyz]
  intro z
  rcases z with z | z | z
  · exact absurd (s1.symm.trans z) (by decide)
  · exact absurd (s2.symm.trans z) (by decide)
  · exact absurd (s3.symm.trans z) (by decide)
theorem lc_inv {m : Bool} {e : IE} {x : Expr} {gs : List Comprehension} {scope : Scope} {pos : Pos} (h : chk m c e (.ListComp x gs scope pos) = true) : ∃ elt tg k src ifs own tg' iter ifs', e = .lc elt tg k src ifs own ∧ gs = [⟨tg', iter, ifs', 0⟩] ∧
    (!m && decide (ifs'.length ≤ 1) && blkB c scope own && tg.ixs.all (fun j => decide (j ∈ own.map (·.2))) && noSet iter && chkG (c.blk scope) tg tg' && (chkI c k src tg' iter && (chks true (c.blk scope) ifs ifs' && chk false (c.blk scope) elt x))) = true := by
  generalize hy : Expr.ListComp x gs scope pos = y at h
  unfold chk at h
  split at h <;> first | (cases hy; done) | (cases h; done) | skip
  cases hy
  exact ⟨_, _, _, _, _, _, _, _, _, rfl, rfl, h⟩
mutual
theorem chkS_ok (ok : Γ.Ok) (G : Good Γ c X) (s : IS) {x : Stmt} (h : chkS c s x = true) : JS X Γ.dk x (s.sm Γ.F Γ.dk) := by
  have hN : X.N.Nodup := by rw [G.N]; exact G.nd
  unfold chkS at h
  split at h
  all_goals try simp only [IS.sm]
  · rename_i i e x px v p
    simp only [Bool.and_eq_true] at h
    obtain ⟨⟨⟨hl, hk⟩, hd⟩, h1⟩ := h
    obtain ⟨l1, l2, l3⟩ := loc_ok G hl
    have hs := swap_lc (l := p.line) (px := px) (x := x) G hk hd
    cases hb : swp c x px v with
    | false =>
      rw [hb] at hs
      exact js_set hN l1 l2 ((chk_ok ok G _ h1).1 rfl) hs l3
    | true =>
      rw [hb] at hs
      unfold swp at hb
      split at hb
      · simp only [Bool.and_eq_true, decide_eq_true_eq] at hb
        obtain ⟨elt, tg, k, src, ifs, own, tg', iter, ifs', rfl, rfl, h9⟩ := lc_inv h1
        simp only [Bool.and_eq_true, Bool.not_eq_true', decide_eq_true_eq, List.all_eq_true] at h9
        obtain ⟨⟨⟨⟨⟨⟨hm, h8⟩, hb'⟩, hw⟩, hn⟩, hg⟩, hi, ht, he⟩ := h9
        exact js_setLc G l1 (by rw [G.sc]; exact hb.1.1) hs (chkI_ok ok G _ hi) (blk_ok G hb') hw (fun X' G' => chkG_ok G' _ _ hg) (fun X' G' => ((chks_ok ok G' _ ht).2 rfl).ifs h8) (fun X' G' => (chk_ok ok G' _ he).1 rfl) (fold_ok hn _)
      · cases hb
  · simp only [Bool.and_eq_true] at h
    obtain ⟨⟨⟨ht, hv⟩, hg⟩, h1⟩ := h
    rename_i tg e t v p
    cases t <;> first | (simp [isTup] at ht; done) | skip
    refine js_unp (chkG_ok G _ _ hg) ((chk_ok ok G _ h1).1 rfl) ?_ ?_ rfl
    · cases v <;> rfl
    · cases v <;> first | rfl | (simp [noTup] at hv)
  · simp only [Bool.and_eq_true, decide_eq_true_eq] at h
    obtain ⟨⟨⟨⟨⟨⟨⟨hk, hi⟩, hj⟩, hx⟩, hy⟩, hij⟩, hp⟩, h1, h2⟩ := h
    have hp' := hp
    simp only [parOk, Bool.and_eq_true, List.all_cons] at hp'
    refine js_par G (by rw [G.N]; exact hi) (by rw [G.N]; exact hj) hij (by rw [G.sc]; exact hx) (by rw [G.sc]; exact hy) ((chk_ok ok G _ h1).1 rfl) ((chk_ok ok G _ h2).1 rfl) (star_cons hp'.1.1.2.1) (star_cons hp'.1.1.2.2.1) (par_ok2 G hk hx hy hp) rfl
  · simp only [Bool.and_eq_true, decide_eq_true_eq] at h
    obtain ⟨⟨⟨⟨⟨⟨⟨⟨⟨hk, hi⟩, hj⟩, hl⟩, hx⟩, hy⟩, hz⟩, hij⟩, hp⟩, h1, h2, h3⟩ := h
    have hp' := hp
    simp only [parOk, Bool.and_eq_true, List.all_cons] at hp'
    refine js_par3 G (by rw [G.N]; exact hi) (by rw [G.N]; exact hj) (by rw [G.N]; exact hl) hij.1 hij.2.1 hij.2.2 (by rw [G.sc]; exact hx) (by rw [G.sc]; exact hy) (by rw [G.sc]; exact hz) ((chk_ok ok G _ h1).1 rfl) ((chk_ok ok G _ h2).1 rfl) ((chk_ok ok G _ h3).1 rfl) (star_cons hp'.1.1.2.1) (star_cons hp'.1.1.2.2.1) (star_cons hp'.1.1.2.2.2.1) (par_ok3 G hk hx hy hz hp) rfl
  · simp only [Bool.and_eq_true] at h
    exact js_drop ((chk_ok ok G _ h.2).1 rfl) (noComp_ok h.1 _ _ _)
  · exact js_ret ((chk_ok ok G _ h).1 rfl)
  · exact js_retN
  · simp only [Bool.and_eq_true] at h
    exact js_if ((chk_ok ok G _ h.1).2 rfl) (chkSs_ok ok G _ h.2.1) (chkSs_ok ok G _ h.2.2)
  · simp only [Bool.and_eq_true] at h
    obtain ⟨⟨⟨hn, hg⟩, hi⟩, hb⟩ := h
    exact js_for G (chkI_ok ok G _ hi) (chkG_ok G _ _ hg) (chkSs_ok ok G _ hb) (fold_ok hn _)
  · simp only [Bool.and_eq_true] at h
    exact js_while G ((chk_ok ok G _ h.1).2 rfl) (chkSs_ok ok G _ h.2)
  · exact js_brk
  · exact js_cnt
  · exact js_pass
  · cases h
termination_by sizeOf s
theorem chkSs_ok (ok : Γ.Ok) (G : Good Γ c X) (ss : List IS) {xs : List Stmt} (h : chkSs c ss xs = true) : JSs X Γ.dk xs (IS.sms Γ.F Γ.dk ss) := by
  unfold chkSs at h
  split at h
  · exact js_nil
  · simp only [Bool.and_eq_true] at h
    exact js_cons (chkS_ok ok G _ h.1) (chkSs_ok ok G _ h.2)
  · cases h
termination_by sizeOf ss
end
end

/-! ### a def -/
/-- what is handed back, seen from outside -/
def Res.out (ρ : S) : Res → Option Res
  | .d x => some (.d x)
  | .l xs => some (.l xs)
  | .m ks xs => some (.m ks xs)
  | .p i => match ρ.v[i]? with
    | some (some (.d x)) => some (.d x)
    | some (some (.l xs)) => some (.l xs)
    | some (some (.m ks xs)) => some (.m ks xs)
    | _ => none
/-- the ends of a def -/
def retC (R : Res → Nat → Prop) : C where
  nx := fun ρ => R (.d .non) ρ.k
  rt := fun r ρ => ∃ r', r.out ρ = some r' ∧ R r' ρ.k
  bk := fun _ => False
  ct := fun _ => False
/-- the state at the entry -/
def ent (n : Nat) (ds : List D) (k : Nat) : S := ⟨ds.map (fun d => some (.d d)) ++ List.replicate (n - ds.length) none, k⟩
def Gam.at (Γ : Gam) (dk : Option (Addr × Addr)) : Gam := { Γ with dk := dk }
theorem Gam.Ok.at {Γ : Gam} (ok : Γ.Ok) (dk : Option (Addr × Addr)) : (Γ.at dk).Ok := ⟨fun x i h => ⟨(ok.fn x i h).ex⟩, fun x ks i h => ⟨(ok.kw x ks i h).ex⟩, ok.nb⟩
theorem ent_er {P : Pm} {Hs H : Hp} {N : List Str} {vs : List V} {ds : List D} {k : Nat} (hP : P.Hs0 = Hs ∧ P.H0 = H) (s : Same Hs H) (sy : Sys Hs) (hd : Dk P.dk Hs H k) (hr : RpL P.K Hs ds vs) : ER P Hs H (L2.start N vs) (ent N.length ds k) where
  sub := s
  grow := by rw [hP.1]; exact Same.refl _
  keep := fun b o e _ => by rw [hP.2] at e; exact e
  old := fun b _ h => by rw [hP.1] at h; exact h
  dk := hd
  dkin := fun b hb => by rw [hP.2]; obtain ⟨o, q⟩ := hd.there hb; rw [q]; exact fun z => by cases z
  len := by simp [L2.start, ent, hr.length]
  slot := fun i x e => by
    have e : (ds.map (fun d => some (B.d d)) ++ List.replicate (N.length - ds.length) none)[i]? = some (some x) := e
    by_cases hi : i < ds.length
    · rw [List.getElem?_append_left (by simpa using hi)] at e
      simp [hi] at e
      subst e
      obtain ⟨v, h1, h2⟩ := hr.get (i := i) (d := ds[i]) (by simp [hi])
      refine ⟨v, ?_, h2⟩
      unfold L2.start
      rw [List.getElem?_append_left (by rw [List.length_map, ← hr.length]; exact hi), List.getElem?_map, h1]
      rfl
    · rw [List.getElem?_append_right (by simpa using hi), List.getElem?_replicate] at e
      split at e <;> simp at e
  apart := fun i j x y v n e1 o1 e2 o2 => by
    have key : ∀ {i : Nat} {x : B}, (ent N.length ds k).v[i]? = some (some x) → x.own = false := fun {i x} e => by
      have e : (ds.map (fun d => some (B.d d)) ++ List.replicate (N.length - ds.length) none)[i]? = some (some x) := e
      by_cases hi : i < ds.length
      · rw [List.getElem?_append_left (by simpa using hi)] at e
        simp [hi] at e
        subst e; rfl
      · rw [List.getElem?_append_right (by simpa using hi), List.getElem?_replicate] at e
        split at e <;> simp at e
    rw [key e1] at o1; cases o1
  sys := by rw [hP.1]; exact sy
theorem out_rf {P : Pm} {Hs H : Hp} {σ : L2.St} {ρ : S} {v : V} {r r' : Res} (E : ER P Hs H σ ρ) (h : RR P Hs H σ ρ v r) (o : r.out ρ = some r') : RF P.K Hs P.H0 H v r' := by
  have own : ∀ {x : B}, Own P Hs H x v → x.own = true → ∀ r', (match x with
    | .d x => Res.d x
    | .l xs => .l xs
    | .m ks xs => .m ks xs) = r' → RF P.K Hs P.H0 H v r' := fun {x} h hx r' e => by
    subst e
    cases x with
    | d x => cases hx
    | l xs => obtain ⟨a, vs, rfl, h1, h2, h3, h4⟩ := h; exact ⟨a, vs, rfl, h2, h1, h3, h4⟩
    | m ks xs => obtain ⟨a, vs, rfl, h1, h2, h3, h5, h4⟩ := h; exact ⟨a, vs, rfl, h2, h1, h3, h5, h4⟩
  cases r with
  | d x => cases o; exact h
  | l xs => cases o; exact own (x := .l xs) h.1 rfl _ rfl
  | m ks xs => cases o; exact own (x := .m ks xs) h.1 rfl _ rfl
  | p i =>
    obtain ⟨h1, b, h2, h3⟩ := h
    obtain ⟨w, q1, q2⟩ := E.slot i b h2
    rw [h1] at q1; cases q1
    simp only [Res.out, h2] at o
    cases b with
    | d x => cases h3
    | l xs => cases o; exact own (x := .l xs) q2 rfl _ rfl
    | m ks xs => cases o; exact own (x := .m ks xs) q2 rfl _ rfl
/-- the body keeps the promise, in data -/
def Keeps (F : Fs) (N : List Str) (body : List IS) : FnI → Prop
  | .pu pf => ∀ ds R, pf ds R → IS.sms F none body (ent N.length ds 0) (retC fun r _ => R r)
  | .dk pf => ∀ p c ds k R, pf ds k R → IS.sms F (some (p, c)) body (ent N.length (.cst (.ref p) :: ds) k) (retC R)
section
variable {Γ : Gam} {x qual : Str} {st : Stmt} {f : Addr} {fd : FuncData} {N ps : List Str}
/-- THE RULE: a def keeps its promise -/
theorem def_ok (ok : Γ.Ok) (F : Fun Γ.K x qual st f fd) (Sc : FnScope N ps (defScope st)) (body : List IS) (i : FnI) (hl : i.Len ps.length) (hc : chkSs ⟨N, defScope st, fun _ => true⟩ body (defBody st) = true) (hk : Keeps Γ.F N body i) :
    FnZ Γ.P Γ.w Γ.K Γ.mg Γ.base CX0 (Γ.lv + 1) f fd ps (i.sp Γ.K) := by
  refine fnz_of F Sc (FnI.len hl) fun cdv A outer s H vs Q E hg hr hsp => ?_
  have good : ∀ dk, Good (Γ.at dk) ⟨N, defScope st, fun _ => true⟩ (cxOf CX0 Γ.P Γ.w Γ.K Γ.mg Γ.base N qual (defScope st) f cdv A outer s H E).nox := fun dk =>
    ⟨rfl, rfl, rfl, rfl, rfl, rfl, rfl, rfl, Sc.nd, rfl, hg, hr, PassesOwn.never⟩
  cases i with
  | pu pf =>
    obtain ⟨Hs, ds, R, s1, sy, h1, h2, k⟩ := hsp
    have J := chkSs_ok (ok.at none) (good none) body hc ⟨Γ.K, none, Hs, H⟩ ⟨rfl, rfl⟩
    refine ⟨_, J.nox, Hs, ent N.length ds 0, retC fun r _ => R r, ent_er ⟨rfl, rfl⟩ s1 sy trivial h1, hk ds R h2, fun σ' Hs' H' ρ' g E' h => ?_, fun σ' Hs' H' ρ' v r g E' rr ⟨r', ho, h⟩ => ?_, fun _ _ _ _ _ _ h => h.elim, fun _ _ _ _ _ _ h => h.elim⟩
    · exact k Hs' H' .non (.d .non) g E'.sub (fun b o e => E'.keep b o e (fun z => z)) (fun b h1 h2 => E'.old b h1 h2) rfl h
    · exact k Hs' H' v r' g E'.sub (fun b o e => E'.keep b o e (fun z => z)) (fun b h1 h2 => E'.old b h1 h2) (out_rf E' rr ho) h
  | dk pf =>
    obtain ⟨p, c, ws, k0, Hs, ds, R, rfl, s1, sy, hd, h1, h2, k⟩ := hsp
    have J := chkSs_ok (ok.at (some (p, c))) (good (some (p, c))) body hc ⟨Γ.K, some (p, c), Hs, H⟩ ⟨rfl, rfl⟩
    refine ⟨_, J.nox, Hs, ent N.length (.cst (.ref p) :: ds) k0, retC R, ent_er ⟨rfl, rfl⟩ s1 sy hd ⟨_, _, rfl, rfl, h1⟩, hk p c ds k0 R h2, fun σ' Hs' H' ρ' g E' h => ?_, fun σ' Hs' H' ρ' v r g E' rr ⟨r', ho, h⟩ => ?_, fun _ _ _ _ _ _ h => h.elim, fun _ _ _ _ _ _ h => h.elim⟩
    · exact k Hs' H' .non (.d .non) ρ'.k g E'.sub E'.dk (fun b o e n => E'.keep b o e n) (fun b h1 h2 => E'.old b h1 h2) rfl h
    · exact k Hs' H' v r' ρ'.k g E'.sub E'.dk (fun b o e n => E'.keep b o e n) (fun b h1 h2 => E'.old b h1 h2) (out_rf E' rr ho) h
end
end Pz

set_option maxRecDepth 100000
set_option maxHeartbeats 4000000
/-! Pz, part 16: the law's own def, the law's end. -/
namespace Pz
open PySem L2 PySem.Spec PyProof.Rows

/-- the deck is made -/
def spMk (K : PySem.W.Frag) : Sp := fun vs H Q _ => ∃ (a : Addr) (ns : List Int), vs = [.ref a] ∧ SqL K H a (ns.map V.int) ∧ ns.length ≤ 63 ∧
  ∀ (p c : Addr) (m : Int) (ns' : List Int) (H' : Hp), p ≠ c → H p = none → H c = none → H' p = some (.lst [.ref c, .int m, .int 0]) → H' c = some (.lst (ns'.map V.int)) → ns'.length ≤ 63 → Same H H' → Q (.ref p) H'
/-- the law: a list of at most 63 ints, True -/
def spLaw (K : PySem.W.Frag) : Sp := fun vs H Q _ => ∃ (a : Addr) (ns : List Int), vs = [.ref a] ∧ SqL K H a (ns.map V.int) ∧ ns.length ≤ 63 ∧ Sys H ∧ ∀ H', Q (.bl true) H'
/-- a def of one list that makes the deck -/
structure HasMk (Γ : Gam) (x : Str) : Prop where
  ex : ∃ (f : Addr) (fd : FuncData) (ps : List Str) (k : Nat), k ≤ Γ.lv ∧ FnZ Γ.P Γ.w Γ.K Γ.mg Γ.base CX0 k f fd ps (spMk Γ.K) ∧ Γ.mg x = some (.ref f) ∧ PySem.W.keepIn Γ.K (.ref f) = true ∧ Binds Γ.K fd ps []
/-- the first statement of the law's def: its deck -/
def chkMk (c : Sx) (dn : Str) : List Stmt → Option (List Stmt)
  | .Assign [.Name d _] (.Call (.Name f _) [.Name s _] [] _) _ :: rest => if decide (f = dn) && c.gl f && !(f == "__debug__") && c.vis 0 s && c.loc 1 d then some rest else none
  | _ => none
theorem law_ok {Γ : Gam} (ok : Γ.Ok) {x qual : Str} {st : Stmt} {f : Addr} {fd : FuncData} {N : List Str} {s0 dn : Str} (M : HasMk Γ dn) (F : Fun Γ.K x qual st f fd) (Sc : FnScope N [s0] (defScope st)) (hN : 2 ≤ N.length) (body : List IS)
    (hc : (match chkMk ⟨N, defScope st, fun _ => true⟩ dn (defBody st) with
      | some rest => chkSs ⟨N, defScope st, fun _ => true⟩ body rest
      | none => false) = true)
    (hk : ∀ p c a, IS.sms Γ.F (some (p, c)) body ⟨some (.d (.cst (.ref a))) :: some (.d (.cst (.ref p))) :: List.replicate (N.length - 2) none, 0⟩ (retC fun r _ => r = .d (.bl true))) :
    FnZ Γ.P Γ.w Γ.K Γ.mg Γ.base CX0 (Γ.lv + 1) f fd [s0] (spLaw Γ.K) := by
  refine fnz_of F Sc (fun vs H Q E h => by obtain ⟨a, ns, rfl, _⟩ := h; rfl) fun cdv A outer s H vs Q E hg hr hsp => ?_
  have good : ∀ dk, Good (Γ.at dk) ⟨N, defScope st, fun _ => true⟩ (cxOf CX0 Γ.P Γ.w Γ.K Γ.mg Γ.base N qual (defScope st) f cdv A outer s H E).nox := fun dk =>
    ⟨rfl, rfl, rfl, rfl, rfl, rfl, rfl, rfl, Sc.nd, rfl, hg, hr, PassesOwn.never⟩
  obtain ⟨a, ns, rfl, hS, hl, sy, k⟩ := hsp
  generalize hb : defBody st = B at hc
  unfold chkMk at hc
  split at hc <;> first | (cases hc; done) | skip
  rename_i rest hm
  split at hm <;> first | (cases hm; done) | skip
  rename_i d pd fn pf sv ps pc pa rest'
  split at hm <;> first | (cases hm; done) | skip
  rename_i hcond
  cases hm
  simp only [Bool.and_eq_true, Bool.not_eq_true', decide_eq_true_eq] at hcond
  obtain ⟨⟨⟨⟨rfl, c1⟩, c2⟩, c3⟩, c4⟩ := hcond
  obtain ⟨f', fd', ps', k', hk', Fm, hm', hK', hb'⟩ := M.ex
  have G0 := good none
  obtain ⟨v1, v2, v3, v4⟩ := vis_ok G0 c3
  obtain ⟨l1, l2, l3⟩ := loc_ok G0 c4
  have pcall : PE (cxOf CX0 Γ.P Γ.w Γ.K Γ.mg Γ.base N qual (defScope st) f cdv A outer s H E).nox (.Call (.Name fn pf) [.Name sv ps] [] pc) (fun σ H Q => (tCons _ tNil) σ H fun vs H1 => spMk Γ.K vs H1 Q fun _ _ _ => False) :=
    pe_callZ (E := fun _ _ _ => False) (Fm.mono hk') hg hr (gl_ok G0 c1) hm' hK' hb' (fun _ _ _ _ _ _ _ z => z.elim) (pa_cons (pe_var v1 v2 v3 v4) pa_nil (star_cons rfl)) c2 (star_cons rfl) rfl
  have prest : PSs (cxOf CX0 Γ.P Γ.w Γ.K Γ.mg Γ.base N qual (defScope st) f cdv A outer s H E).nox rest (fun D σ H => ∃ P : Pm, P.K = Γ.K ∧ liftS P (IS.sms Γ.F P.dk body) D σ H) := ⟨fun pins s' σ H' D I ⟨P, e, q⟩ =>
    (chkSs_ok (ok.at P.dk) (good P.dk) body hc P ⟨e, rfl⟩).run pins s' σ H' D I q⟩
  refine ⟨_, (pss_cons (ps_set Sc.nd l1 l2 pcall rfl l3) prest).nox, ?_⟩
  obtain ⟨n, hn⟩ : ∃ n, N.length = n + 2 := ⟨N.length - 2, by omega⟩
  have es : L2.start N [.ref a] = some (.ref a) :: none :: List.replicate n none := by
    unfold L2.start
    rw [List.length_singleton, hn, show n + 2 - 1 = n + 1 by omega, List.replicate_succ]; rfl
  rw [es]
  refine ⟨.ref a, rfl, a, ns, rfl, hS, hl, fun p c m ns' H' hpc hp hcn h1 h2 h3 s1 => ?_⟩
  have hk' := hk p c a
  rw [hn, show n + 2 - 2 = n by omega] at hk'
  obtain ⟨om, φ, hom⟩ := sy
  have np : p ≠ sysModules := fun z => by rw [z, hom] at hp; cases hp
  have nc : c ≠ sysModules := fun z => by rw [z, hom] at hcn; cases hcn
  refine ⟨⟨Γ.K, some (p, c), fun b => if b = sysModules then H b else none, H'⟩, rfl, (fun b => if b = sysModules then H b else none), _, retC fun r _ => r = .d (.bl true), ⟨fun b o e => ?_, Same.refl _, fun b o e _ => e, fun b _ h => h, ⟨hpc, if_neg np, if_neg nc, m, ns', h1, h2, h3⟩, fun b hb => ?_, ?_, fun i x e => ?_, fun i j x y v nij e1 o1 e2 o2 => ?_, ⟨om, φ, (show (if sysModules = sysModules then H sysModules else none) = _ by rw [if_pos rfl]; exact hom)⟩⟩, hk', fun σ' Hs' H2 ρ' g E' h => ?_, fun σ' Hs' H2 ρ' v r g E' rr ⟨r', ho, h⟩ => ?_, fun _ _ _ _ _ _ h => h.elim, fun _ _ _ _ _ _ h => h.elim⟩
  · by_cases z : b = sysModules
    · rw [if_pos z] at e; exact s1 b o e
    · rw [if_neg z] at e; cases e
  · rcases hb with rfl | rfl
    · show H' b ≠ none
      rw [h1]; exact fun z => by cases z
    · show H' b ≠ none
      rw [h2]; exact fun z => by cases z
  · simp
  · match i, e with
    | 0, e => cases e; exact ⟨_, rfl, rfl⟩
    | 1, e => cases e; exact ⟨_, rfl, rfl⟩
    | i + 2, e =>
      have e : (List.replicate n (none : Option B))[i]? = some (some x) := e
      rw [List.getElem?_replicate] at e
      split at e <;> simp at e
  · have key : ∀ {i : Nat} {x : B}, (some (B.d (D.cst (V.ref a))) :: some (B.d (D.cst (V.ref p))) :: List.replicate n none)[i]? = some (some x) → x.own = false := fun {i x} e => by
      match i, e with
      | 0, e => cases e; rfl
      | 1, e => cases e; rfl
      | i + 2, e =>
        have e : (List.replicate n (none : Option B))[i]? = some (some x) := e
        rw [List.getElem?_replicate] at e
        split at e <;> simp at e
    rw [key e1] at o1; cases o1
  · cases (show Res.d .non = Res.d (.bl true) from h)
  · subst h
    have q := out_rf E' rr ho
    cases (show v = .bl true from q)
    exact k _

/-! ### the end -/
theorem law_callZ {P : Program} {w : World} {K : PySem.W.Frag} {mg mb : Str → Option Value} {k : Nat} {fa a : Addr} {fd : FuncData} {x : Str} {sp : Sp} {s₁ : Shared} {vs : List Value} {ns : List Int}
    (KX : K.In s₁.heap) (hns : s₁.heap.Ns mainGlobals mg) (hb : s₁.heap.Ns builtinsNs mb) (hbb : ∀ x : Str, x ≠ "__name__" → mb x = bootBuiltins x) (hlim : s₁.heap.NoLimit) (hg : s₁.gens = #[])
    (hm : ∃ mm, s₁.heap.Ns sysModules mm) (hKm : K.lookup sysModules = none)
    (ha : s₁.heap.get? a = some { cls := .type "list", data := .seq vs.toArray }) (hi : IntsAre vs ns) (hl : ns.length ≤ sizeLine) (hr : Room k callerA)
    (F : ∀ base : Heap, K.In base → base.Ns mainGlobals mg → FnZ P w K mg base CX0 k fa fd [x] sp) (hbind : ∀ (s : Shared) (u : Value), BindsTo s fd ⟨[u], []⟩ [(x, u)])
    (hsp : ∀ H : Hp, Sys H → SqL K H a (ns.map V.int) → sp [.ref a] H (fun v _ => v = .bl true) fun _ _ _ => False) :
    codeAny (model P w) callerA (.call (.ref fa) ⟨[.ref a], []⟩) (fun r s' => r = .ok (.ret (.bool true)) ∧ OldK s₁.heap s'.heap ∧ s'.os = s₁.os ∧ AllBare s'.gens) s₁ := by
  have rv := vals_ints hi
  have lenV := hi.length
  obtain ⟨mm, om, esm, epm, hom, hdm, _⟩ := hm
  have am : a ≠ sysModules := fun z => by
    rw [z, hom] at ha
    cases ha
    cases hdm
  have core : ∀ H : Hp, Sys H → SqL K H a (ns.map V.int) → HOk P w H s₁.heap → (∀ b u, H b = some u → (b = a ∨ b = sysModules) ∧ ∃ o u', u = .frz o u') → (H a ≠ none → K.lookup a = none) →
      codeAny (model P w) callerA (.call (.ref fa) ⟨[.ref a], []⟩) (fun r s' => r = .ok (.ret (.bool true)) ∧ OldK s₁.heap s'.heap ∧ s'.os = s₁.os ∧ AllBare s'.gens) s₁ := by
    intro H sy hS hok hA hK
    have base_of : ∀ {b : Addr} {o : Obj}, s₁.heap.get? b = some o → H b = none → (hidT s₁.heap H).get? b = some o := fun e n => hidT_get e n
    have noA : ∀ {b : Addr} {o : Obj} {es : Array DictEntry} {ep : Nat}, b ≠ sysModules → s₁.heap.get? b = some o → o.data = .dict es ep → H b = none := fun {b o es ep} nb e d => by
      cases q : H b with
      | none => rfl
      | some u =>
        rcases (hA b u q).1 with e' | e'
        · subst e'
          rw [ha] at e; cases e
          have d' : Data.seq vs.toArray _ = Data.dict es ep := d
          cases d'
        · exact absurd e' nb
    have nsK : ∀ {b : Addr} {m : Str → Option Value}, b ≠ sysModules → s₁.heap.Ns b m → (hidT s₁.heap H).Ns b m := fun {b m} nb ⟨o, es, ep, e, d, r⟩ => ⟨o, es, ep, base_of e (noA nb e d), d, r⟩
    have hKb : K.In (hidT s₁.heap H) := fun b o e => base_of (KX b o e) (by
      cases q : H b with
      | none => rfl
      | some u =>
        rcases (hA b u q).1 with e' | e'
        · subst e'
          rw [hK (by rw [q]; simp)] at e; cases e
        · subst e'
          rw [hKm] at e; cases e)
    have hM : Mod K mg (hidT s₁.heap H) := ⟨hKb, nsK (by decide) hns, ⟨mb, nsK (by decide) hb, hbb⟩, let ⟨mc, h1, h2⟩ := hlim; ⟨mc, nsK (by decide) h1, h2⟩⟩
    have e0 : Env0 P w K mg (hidT s₁.heap H) callerA [] s₁ H := ⟨rfl, hM, fun b o e => of_hidT e, Nat.le_of_eq (hidT_size _ _), trivial, fun b hb => absurd (show b ∈ ([] : List Addr) from hb) (by simp), hok, .of_eq hg⟩
    refine codeAny_mono ((F _ hKb (nsK (by decide) hns)).run callerA [] s₁ H ⟨[.ref a], []⟩ [.ref a] [.ref a] _ _ rfl hr e0 (hbind s₁ (.ref a)) (.cons rfl .nil) (hsp H sy hS)) fun r s' h => ?_
    cases r with
    | error e => exact False.elim h
    | ok fl =>
      cases fl with
      | next => exact False.elim h
      | brk => exact False.elim h
      | cont => exact False.elim h
      | ret u =>
        obtain ⟨v, H', os, bare, un, hok', r', q⟩ := h
        have q' : v = .bl true := q
        subst q'
        obtain rfl : u = Value.bool true := r'
        refine ⟨rfl, OldK.of_keep fun b o e => ?_, os, bare⟩
        cases q : H b with
        | none => exact un.keep b o e q (by intro z; exact absurd (show b ∈ ([] : List Addr) from z) (by simp)) (by simp)
        | some u =>
          obtain ⟨_, ob, u', rfl⟩ := hA b u q
          have z2 := un.frzs b ob _ q
          obtain ⟨e1, _⟩ := hok b _ q
          obtain ⟨e2, _⟩ := hok' b _ z2
          rw [e] at e1; cases e1
          exact e2
  have sysOk : ∀ H : Hp, ObjOk P w H s₁.heap sysModules (.frz om (.ext fun _ => True)) := fun H => ⟨hom, trivial, ⟨om, hom⟩, fun _ _ _ _ => trivial⟩
  cases hk : K.lookup a with
  | some o =>
    have e := KX a o hk
    rw [ha] at e
    cases e
    refine core (fun b => if b = sysModules then some (.frz om (.ext fun _ => True)) else none) ⟨om, _, if_pos rfl⟩ (.inr ⟨_, vs.toArray, _, hk, rfl, rfl, rfl, by rw [List.size_toArray, lenV]; exact hl, by simpa using rv⟩) (fun b u z => ?_) (fun b u z => ?_) fun z => absurd (if_neg am) z
    · have z : (if b = sysModules then some (HO.frz om (.ext fun _ => True)) else none) = some u := z
      split at z
      · rename_i hbm; subst hbm; cases z; exact sysOk _
      · cases z
    · have z : (if b = sysModules then some (HO.frz om (.ext fun _ => True)) else none) = some u := z
      split at z
      · rename_i hbm; cases z; exact ⟨.inr hbm, _, _, rfl⟩
      · cases z
  | none =>
    refine core (fun b => if b = sysModules then some (.frz om (.ext fun _ => True)) else if b = a then some (.frz { cls := .type "list", data := .seq vs.toArray } (.lst (ns.map V.int))) else none) ⟨om, _, if_pos rfl⟩ (.inl (.inr ⟨{ cls := .type "list", data := .seq vs.toArray }, by
      show (if a = sysModules then _ else if a = a then _ else none) = _
      rw [if_neg am, if_pos rfl]⟩)) (fun b u z => ?_) (fun b u z => ?_) fun _ => hk
    · have z : (if b = sysModules then some (HO.frz om (.ext fun _ => True)) else if b = a then some (.frz { cls := .type "list", data := .seq vs.toArray } (.lst (ns.map V.int))) else none) = some u := z
      split at z
      · rename_i hbm; subst hbm; cases z; exact sysOk _
      · split at z
        · rename_i hba; cases z
          rw [hba]
          exact ⟨ha, by rw [List.length_map]; exact hl, vs, _, rv, ha⟩
        · cases z
    · have z : (if b = sysModules then some (HO.frz om (.ext fun _ => True)) else if b = a then some (.frz { cls := .type "list", data := .seq vs.toArray } (.lst (ns.map V.int))) else none) = some u := z
      split at z
      · rename_i hbm; cases z; exact ⟨.inr hbm, _, _, rfl⟩
      · split at z
        · rename_i hba; cases z; exact ⟨.inl hba, _, _, rfl⟩
        · cases z
theorem walkZ {l : PySem.W.OpenLaw} {k : Nat} {q : Program} {loose : List Str} {XP : (Str → Option Value) → Heap → Prop} {YP : World → Heap → Prop} {d : DefRec} {K : Params → PySem.W.Frag} {x : Str}
    (hn : l.most = some 63) (hdf : d.params.defaults = []) (hr : Room k callerA) (hi : importsNone q = true)
    (hY : ∀ (w : World) (h : Heap), YP w h → (K w.params).In h) (hKm : ∀ w : World, (K w.params).lookup sysModules = none)
    (F : ∀ (w : World) (mg : Str → Option Value) (fa : Addr) (h : Heap), (K w.params).In h → h.Ns mainGlobals mg → mg d.name = some (.ref fa) →
      ∃ fd : FuncData, (∀ (s : Shared) (u : Value), BindsTo s fd ⟨[u], []⟩ [(x, u)]) ∧ ∀ base : Heap, (K w.params).In base → base.Ns mainGlobals mg → FnZ l.prog w (K w.params) mg base CX0 k fa fd [x] (spLaw (K w.params))) :
    PySem.W.WalkO q loose XP YP l.row.toRowW d [] (fun f vs => PySem.call f vs) := by
  refine Att.attach_call hn hdf fun w s₀ s₁ mg mb fa o pm cd doc a vs ns G Y ho hd hcd hmg hobj hints hlen hg => ?_
  have KX := hY w _ Y
  obtain ⟨fd, hb, hF⟩ := F w mg fa _ KX G.T.g hmg
  obtain ⟨mm, hmm, _⟩ := (G.T.seer hi).mods
  exact law_callZ KX G.T.g G.T.b G.T.builtins G.T.nolimit hg ⟨mm, hmm⟩ (hKm w) hobj hints (Nat.le_trans hlen (by decide)) hr hF hb (fun H sy hS => ⟨a, ns, rfl, hS, hlen, sy, fun _ => rfl⟩)
end Pz

set_option maxRecDepth 100000
set_option maxHeartbeats 4000000
/-! Pz, part 17: the deck is made, a number is drawn. -/
namespace Pz
open PySem L2 PySem.Spec PyProof.Rows

/-- a def that makes the deck: [cells, .., 0] -/
def chkDeck (c : Sx) : List Stmt → Bool
  | [.Assign [.Tuple [.Name a pa, .Name b pb] _ _] (.Tuple [.Call (.Name li _) [.Subscript (.Name s _) (.Slice none (some (.Constant (.int z) _ _)) none _) _] [] p1, .Constant (.int c0) k0 p0] _ _) _,
      .For (.Name x _) (.Name a2 _) [.Assign [.Name b2 _] (.BinOp (.BinOp (.BinOp (.BinOp (.Name b3 _) .Mult (.Constant (.int c1) _ _) _) .Add (.BinOp (.Name x2 _) .Mod (.Constant (.int c2) _ _) _) _) .Add (.Constant (.int c3) _ _) _) .Mod (.Constant (.int c4) _ _) _) _] [] _,
      .Return (some (.List [.Subscript (.Name a3 _) (.Slice none none (some (.UnaryOp .USub (.Constant (.int w) _ _) _)) _) _, .Name b4 _, .Constant (.int u) _ _] _)) _] =>
    okKind c && decide (li = "list" ∧ z = 63 ∧ w = 1 ∧ u = 0 ∧ 0 < c2 ∧ 0 < c4 ∧ -(2 ^ 64) < c1 ∧ c1 < 2 ^ 64) && c.gl li && c.vis 0 s && decide (c.N[1]? = some a ∧ c.N[2]? = some b ∧ c.sc.names.lookup a = some .local ∧ c.sc.names.lookup b = some .local) &&
    parOk [(a, pa), (b, pb)] [.Call (.Name li p1) [.Name s p1] [] p1, .Constant (.int c0) k0 p0] && c.loc 3 x && c.vis 1 a2 && c.loc 2 b2 && c.vis 2 b3 && c.vis 3 x2 && c.vis 1 a3 && c.vis 2 b4
  | _ => false
theorem mk_ok {Γ : Gam} (ok : Γ.Ok) {x qual : Str} {st : Stmt} {f : Addr} {fd : FuncData} {n0 n1 n2 n3 : Str} (F : Fun Γ.K x qual st f fd) (Sc : FnScope [n0, n1, n2, n3] [n0] (defScope st))
    (hc : chkDeck ⟨[n0, n1, n2, n3], defScope st, fun _ => true⟩ (defBody st) = true) : FnZ Γ.P Γ.w Γ.K Γ.mg Γ.base CX0 (Γ.lv + 1) f fd [n0] (spMk Γ.K) := by
  refine fnz_of F Sc (fun vs H Q E h => by obtain ⟨a, ns, rfl, _⟩ := h; rfl) fun cdv A outer s H vs Q E hg hr hsp => ?_
  have G : Good (Γ.at none) ⟨[n0, n1, n2, n3], defScope st, fun _ => true⟩ (cxOf CX0 Γ.P Γ.w Γ.K Γ.mg Γ.base [n0, n1, n2, n3] qual (defScope st) f cdv A outer s H E).nox :=
    ⟨rfl, rfl, rfl, rfl, rfl, rfl, rfl, rfl, Sc.nd, rfl, hg, hr, PassesOwn.never⟩
  obtain ⟨a, ns, rfl, hS, hl, k⟩ := hsp
  generalize hb : defBody st = B at hc
  unfold chkDeck at hc
  split at hc <;> first | (cases hc; done) | skip
  simp only [Bool.and_eq_true, decide_eq_true_eq] at hc
  obtain ⟨⟨⟨⟨⟨⟨⟨⟨⟨⟨⟨⟨hk, ⟨rfl, rfl, rfl, rfl, hc2, hc4, hc1⟩⟩, hgl⟩, v0⟩, ⟨e1, e2, l1, l2⟩⟩, hp⟩, lx⟩, va2⟩, lb2⟩, vb3⟩, vx2⟩, va3⟩, vb4⟩ := hc
  have PV : ∀ {i : Nat} {y : Str} {q : Pos}, Sx.vis ⟨[n0, n1, n2, n3], defScope st, fun _ => true⟩ i y = true → PE (cxOf CX0 Γ.P Γ.w Γ.K Γ.mg Γ.base [n0, n1, n2, n3] qual (defScope st) f cdv A outer s H E).nox (.Name y q) (fun σ H Q => ∃ v, σ[i]? = some (some v) ∧ Q v H) := fun {i y q} h => by
    obtain ⟨h1, h2, h3, h4⟩ := vis_ok G h
    exact pe_var h1 h2 h3 h4
  obtain ⟨x1, x2, x3⟩ := loc_ok G lx
  obtain ⟨y1, y2, y3⟩ := loc_ok G lb2
  have hm : (cxOf CX0 Γ.P Γ.w Γ.K Γ.mg Γ.base [n0, n1, n2, n3] qual (defScope st) f cdv A outer s H E).nox.mg "list" = none := mg_none (ok.at none) G (by decide +kernel)
  refine ⟨_, (pss_cons (ps_par rfl Sc.nd e1 e2 (by decide) l1 l2
      (pa_cons (pe_callTy call_list_of (gl_ok G hgl) hm rfl (pa_cons (pe_slice sl_list (PV v0) po_none (po_some pe_int)) pa_nil (star_cons rfl)) (by decide) (by decide) (star_cons rfl) rfl) (pa_cons pe_int pa_nil (star_cons rfl)) (star_cons rfl))
      (par_ok2 G hk l1 l2 ?_) rfl)
    (pss_cons (ps_for PassesOwn.never rfl (pi_list (PV va2)) (pg_name Sc.nd x1 x2 x3) (pss_one (ps_set Sc.nd y1 y2 (pe_op op_mod (pe_op op_add (pe_op op_add (pe_op op_mul (PV vb3) pe_int) (pe_op op_mod (PV vx2) pe_int)) pe_int) pe_int) rfl y3)))
    (pss_one (ps_ret (pe_lst (pa_cons (pe_revL (PV va3)) (pa_cons (PV vb4) (pa_cons pe_int pa_nil (star_cons rfl)) (star_cons rfl)) (star_cons rfl))))))).nox, ?_⟩
  · exact hp
  · show tSeq _ _ _ [some (V.ref a), none, none, none] H
    obtain ⟨ns', en, hn'⟩ : ∃ ns' : List Int, cutV (ns.map V.int) none (some 63) = ns'.map V.int ∧ ns'.length ≤ 63 := by
      refine ⟨(ns.drop (HT.sIx (ns.map V.int).length 0 none)).take (HT.sIx (ns.map V.int).length (ns.map V.int).length (some 63) - HT.sIx (ns.map V.int).length 0 none), ?_, ?_⟩
      · unfold cutV
        rw [List.map_take, List.map_drop]
      · rw [List.length_take, List.length_drop]; omega
    refine ⟨.ref a, rfl, 63, rfl, a, ns.map V.int, rfl, hS, fun q1 hq1 => ?_⟩
    rw [en]
    refine ⟨q1, ns'.map V.int, rfl, .inl (SqL.of upd_same), fun q2 hq2 => ⟨_, _, rfl, ?_⟩⟩
    have s1 : Same H (upd (upd H q1 (.lst (ns'.map V.int))) q2 (.lst (ns'.map V.int))) := (Same.upd hq1).trans (Same.upd hq2)
    generalize hH2 : upd (upd H q1 (.lst (ns'.map V.int))) q2 (.lst (ns'.map V.int)) = H2 at s1
    have h2 : H2 q2 = some (.lst (ns'.map V.int)) := by rw [← hH2, upd_same]
    rename_i c0 _ _ _ _ _ _ _ _ _ _ _ _ _ _ _ _
    refine ⟨.ref q2, rfl, q2, rfl, ⟨_, SqL.of h2⟩, for_list (K := Γ.K) (a := q2) (xs := ns'.map V.int) (fun i σ H' => ∃ (m : Int) (v : Option V), σ = [some (V.ref a), some (V.ref q2), some (V.int m), v] ∧ H' = H2)
      ⟨_, none, rfl, rfl⟩ (fun i σ H' _ ⟨_, _, _, e⟩ => by rw [e]; exact SqL.of h2) ?_ ?_⟩
    · rintro i y σ H' hi ⟨m, v, rfl, rfl⟩
      obtain ⟨z, rfl⟩ : ∃ z, y = V.int z := by
        rw [List.getElem?_map] at hi
        cases e : ns'[i]? with
        | none => rw [e] at hi; cases hi
        | some z => rw [e] at hi; exact ⟨z, (Option.some.inj hi).symm⟩
      exact ⟨.int m, rfl, _, _, rfl, rfl, .inr hc1, .int z, rfl, _, _, rfl, rfl, hc2, _, _, rfl, rfl, _, _, rfl, rfl, _, _, rfl, rfl, hc4, _, _, rfl, rfl⟩
    · rintro σ H' ⟨m, v, rfl, rfl⟩
      refine ⟨.ref q2, rfl, q2, _, rfl, SqL.of h2, fun c hcn => ⟨.int m, rfl, (by show 3 ≤ sizeLine; decide), fun p hp => ?_⟩⟩
      have ncp : c ≠ p := fun z => by rw [z, upd_same] at hp; cases hp
      refine k p c m ns'.reverse _ (Ne.symm ncp) ?_ ?_ upd_same ?_ (by rw [List.length_reverse]; exact hn') (s1.trans ((Same.upd hcn).trans (Same.upd hp)))
      · exact s1.free (Same.free (Same.upd hcn) hp)
      · exact s1.free hcn
      · rw [upd_ne ncp, upd_same, List.map_reverse]

/-! ### a number is drawn -/
/-- 0 ≤ i < m -/
def pfDraw : List D → Nat → (Res → Nat → Prop) → Prop
  | [.int m], k, R => (0 < m ∧ m < 1073741824 ∧ k < 1099511627776) ∧ ∀ i : Int, 0 ≤ i → i < m → R (.d (.int i)) (k + 1)
  | _, _, _ => False
/-- d[j], d at 0 -/
def isSub (c : Sx) (j : Int) : Expr → Bool
  | .Subscript (.Name d _) (.Constant (.int i) _ _) _ => c.vis 0 d && decide (i = j)
  | _ => false
/-- the last line: of n in 3, m in 1 -/
def chkEnd (c : Sx) : Expr → Bool
  | .BinOp (.BinOp (.BinOp (.BinOp (.Name n _) .Mult (.Constant (.int k1) _ _) _) .Mod (.Constant (.int k2) _ _) _) .FloorDiv (.Constant (.int k3) _ _) _) .Mod (.Name m _) _ =>
    c.vis 3 n && c.vis 1 m && decide (-(2 ^ 64) < k1 ∧ k1 < 2 ^ 64 ∧ 0 < k2 ∧ 0 < k3 ∧ k3 < 1073741824)
  | .BinOp (.BinOp (.BinOp (.BinOp (.Name n _) .Mult (.BinOp (.BinOp (.Name n2 _) .FloorDiv (.Constant (.int k4) _ _) _) .Add (.Constant (.int k1) _ _) _) _) .Mod (.Constant (.int k2) _ _) _) .FloorDiv (.Constant (.int k3) _ _) _) .Mod (.Name m _) _ =>
    c.vis 3 n && c.vis 3 n2 && c.vis 1 m && decide (0 < k2 ∧ 0 < k3 ∧ k3 < 1073741824 ∧ 0 < k4 ∧ k4 < 1073741824)
  | _ => false
/-- (c % k1 + k2 * d[2] * d[2] + k3) * k4 % k5 -/
def chkN1 (c : Sx) : Expr → Bool
  | .BinOp (.BinOp (.BinOp (.BinOp (.BinOp (.Name x _) .Mod (.Constant (.int k1) _ _) _) .Add (.BinOp (.BinOp (.Constant (.int k2) _ _) .Mult s1 _) .Mult s2 _) _) .Add (.Constant (.int k3) _ _) _) .Mult (.Constant (.int k4) _ _) _) .Mod (.Constant (.int k5) _ _) _ =>
    c.vis 2 x && isSub c 2 s1 && isSub c 2 s2 && decide (0 < k1 ∧ 0 ≤ k2 ∧ k2 < 2 ^ 64 ∧ -(2 ^ 64) < k4 ∧ k4 < 2 ^ 64 ∧ 0 < k5 ∧ k5 < 2 ^ 64)
  | _ => false
/-- (n * n + k1 * d[2] + k2) % k3 -/
def chkN2 (c : Sx) : Expr → Bool
  | .BinOp (.BinOp (.BinOp (.BinOp (.Name n _) .Mult (.Name n2 _) _) .Add (.BinOp (.Constant (.int k1) _ _) .Mult s1 _) _) .Add (.Constant (.int k2) _ _) _) .Mod (.Constant (.int k3) _ _) _ =>
    c.vis 3 n && c.vis 3 n2 && isSub c 2 s1 && decide (0 ≤ k1 ∧ k1 < 2 ^ 64 ∧ 0 < k3 ∧ k3 < 2 ^ 64)
  | _ => false
def chkDraw (c : Sx) : List Stmt → Bool
  | [.Assign [.Subscript (.Name d _) (.Constant (.int i2) _ _) _] (.BinOp e2 .Add (.Constant (.int i1) _ _) _) _,
      .Assign [.Name x _] e1 _,
      .If (.Compare e0 [.NotEq] [.List [] _] _) [
        .Assign [.Name x1 _] (.Call (.Attribute e0' pn pp) [] [] pc) _,
        .If (.Compare (.Name x2 _) [.GtE] [.BinOp (.Constant (.int b10) _ _) .Pow (.Constant (.int b18) _ _) _] _) [
          .Expr (.Call (.Attribute e0'' an ap) [.BinOp (.Name x3 _) .FloorDiv (.Name m _) _] [] ac) _,
          .Return (some (.BinOp (.Name x4 _) .Mod (.Name m2 _) _)) _] [] _,
        .Assign [.Name x5 _] (.BinOp (.Name x6 _) .Add e1' _) _] [] _,
      .Assign [.Name n _] en1 _,
      .Assign [.Name n' _] en2 _,
      .Return (some ee) _] =>
    c.vis 0 d && decide (i2 = 2 ∧ i1 = 1 ∧ b10 = 10 ∧ b18 = 18 ∧ pn = "pop" ∧ an = "append") && isSub c 2 e2 && isSub c 1 e1 && isSub c 0 e0 && isSub c 0 e0' && isSub c 0 e0'' && isSub c 1 e1' && c.loc 2 x && c.loc 2 x1 && c.vis 2 x2 && c.vis 2 x3 && c.vis 1 m && c.vis 2 x4 && c.vis 1 m2 && c.loc 2 x5 && c.vis 2 x6 &&
    c.loc 3 n && c.loc 3 n' && chkN1 c en1 && chkN2 c en2 && chkEnd c ee && (pp.endLine == pc.line) && (ap.endLine == ac.line)
  | _ => false
section
variable {Γ : Gam} {c : Sx} {X : Cx}
theorem pv_ok (G : Good Γ c X) {i : Nat} {y : Str} {q : Pos} (h : c.vis i y = true) : PE X (.Name y q) (fun σ H Q => ∃ v, σ[i]? = some (some v) ∧ Q v H) := by
  obtain ⟨h1, h2, h3, h4⟩ := vis_ok G h
  exact pe_var h1 h2 h3 h4
/-- d[j]: what stands there -/
theorem pe_sub (G : Good Γ c X) {j : Int} {e : Expr} (h : isSub c j e = true) : PE X e (fun σ H Q => ∃ p xs v, σ[0]? = some (some (.ref p)) ∧ SqL X.K H p xs ∧ atI xs j = some v ∧ Q v H) := by
  unfold isSub at h
  split at h
  · simp only [Bool.and_eq_true, decide_eq_true_eq] at h
    obtain ⟨h1, rfl⟩ := h
    exact pe_weak (pe_ix ix_list (pv_ok G h1) pe_int fun _ _ => rfl) fun σ H Q ⟨p, xs, v, a1, a2, a3, a4⟩ => ⟨.ref p, a1, p, xs, _, v, rfl, rfl, a2, a3, a4⟩
  · cases h
theorem sub_plain {j : Int} {e : Expr} (h : isSub c j e = true) : plainO e = true ∧ noComp e = true := by
  unfold isSub at h
  split at h
  · exact ⟨rfl, rfl⟩
  · cases h
theorem bnd_mod (a b : Int) (h : 0 < b) : 0 ≤ a % b ∧ a % b < b := ⟨Int.emod_nonneg _ (by omega), Int.emod_lt_of_pos _ h⟩
theorem pe_end (G : Good Γ c X) {e : Expr} (h : chkEnd c e = true) : PE X e (fun σ H Q => ∃ n m : Int, σ[3]? = some (some (.int n)) ∧ σ[1]? = some (some (.int m)) ∧ (0 ≤ n ∧ n < 2 ^ 64) ∧ 0 < m ∧ ∀ i : Int, 0 ≤ i → i < m → Q (.int i) H) := by
  unfold chkEnd at h
  split at h
  · simp only [Bool.and_eq_true, decide_eq_true_eq] at h
    obtain ⟨⟨h1, h2⟩, h3, h3', h4, h5, h6⟩ := h
    refine pe_weak (pe_op op_mod (pe_op op_fdiv (pe_op op_mod (pe_op op_mul (pv_ok G h1) pe_int) pe_int) pe_int) (pv_ok G h2)) fun σ H Q ⟨n, m, a1, a2, a3, a4, k⟩ => ?_
    exact ⟨.int n, a1, _, _, rfl, rfl, .inr ⟨h3, h3'⟩, _, _, rfl, rfl, h4, _, _, rfl, rfl, ⟨h5, h6⟩, .int m, a2, _, _, rfl, rfl, a4, k _ (bnd_mod _ _ a4).1 (bnd_mod _ _ a4).2⟩
  · simp only [Bool.and_eq_true, decide_eq_true_eq] at h
    obtain ⟨⟨⟨h1, h1'⟩, h2⟩, h4, h5, h6, h7, h8⟩ := h
    refine pe_weak (pe_op op_mod (pe_op op_fdiv (pe_op op_mod (pe_op op_mul (pv_ok G h1) (pe_op op_add (pe_op op_fdiv (pv_ok G h1') pe_int) pe_int)) pe_int) pe_int) (pv_ok G h2)) fun σ H Q ⟨n, m, a1, a2, a3, a4, k⟩ => ?_
    exact ⟨.int n, a1, .int n, a1, _, _, rfl, rfl, ⟨h7, h8⟩, _, _, rfl, rfl, _, _, rfl, rfl, .inl ⟨by omega, a3.2⟩, _, _, rfl, rfl, h4, _, _, rfl, rfl, ⟨h5, h6⟩, .int m, a2, _, _, rfl, rfl, a4, k _ (bnd_mod _ _ a4).1 (bnd_mod _ _ a4).2⟩
  · cases h
/-- the count is small -/
theorem small_mul {k2 t : Int} (ht : 0 ≤ t ∧ t < 2 ^ 64) : CMul (k2 * t) t := .inr ⟨by omega, ht.2⟩
theorem pe_n1 (G : Good Γ c X) {e : Expr} (h : chkN1 c e = true) : PE X e (fun σ H Q => ∃ (x t : Int) (p : Addr) (xs : List V), σ[2]? = some (some (.int x)) ∧ σ[0]? = some (some (.ref p)) ∧ SqL X.K H p xs ∧ atI xs 2 = some (.int t) ∧ (0 ≤ t ∧ t < 2 ^ 64) ∧ ∀ i : Int, 0 ≤ i → i < 2 ^ 64 → Q (.int i) H) := by
  unfold chkN1 at h
  split at h
  · simp only [Bool.and_eq_true, decide_eq_true_eq] at h
    obtain ⟨⟨⟨h1, h2⟩, h3⟩, k1, k2, k3, k4, k5, k6, k7⟩ := h
    refine pe_weak (pe_op op_mod (pe_op op_mul (pe_op op_add (pe_op op_add (pe_op op_mod (pv_ok G h1) pe_int) (pe_op op_mul (pe_op op_mul pe_int (pe_sub G h2)) (pe_sub G h3))) pe_int) pe_int) pe_int) fun σ H Q ⟨x, t, p, xs, a1, a2, a3, a4, a5, k⟩ => ?_
    refine ⟨.int x, a1, _, _, rfl, rfl, k1, p, xs, _, a2, a3, a4, _, _, rfl, rfl, .inl ⟨by omega, k3⟩, p, xs, _, a2, a3, a4, _, _, rfl, rfl, small_mul a5, _, _, rfl, rfl, _, _, rfl, rfl, _, _, rfl, rfl, .inr ⟨k4, k5⟩, _, _, rfl, rfl, k6, ?_⟩
    exact k _ (bnd_mod _ _ k6).1 (Int.lt_trans (bnd_mod _ _ k6).2 k7)
  · cases h
theorem pe_n2 (G : Good Γ c X) {e : Expr} (h : chkN2 c e = true) : PE X e (fun σ H Q => ∃ (x t : Int) (p : Addr) (xs : List V), σ[3]? = some (some (.int x)) ∧ (0 ≤ x ∧ x < 2 ^ 64) ∧ σ[0]? = some (some (.ref p)) ∧ SqL X.K H p xs ∧ atI xs 2 = some (.int t) ∧ (0 ≤ t ∧ t < 2 ^ 64) ∧ ∀ i : Int, 0 ≤ i → i < 2 ^ 64 → Q (.int i) H) := by
  unfold chkN2 at h
  split at h
  · simp only [Bool.and_eq_true, decide_eq_true_eq] at h
    obtain ⟨⟨⟨h1, h1'⟩, h2⟩, k1, k2, k3, k4⟩ := h
    refine pe_weak (pe_op op_mod (pe_op op_add (pe_op op_add (pe_op op_mul (pv_ok G h1) (pv_ok G h1')) (pe_op op_mul pe_int (pe_sub G h2))) pe_int) pe_int) fun σ H Q ⟨x, t, p, xs, a1, a0, a2, a3, a4, a5, k⟩ => ?_
    refine ⟨.int x, a1, .int x, a1, _, _, rfl, rfl, .inl ⟨by omega, a0.2⟩, p, xs, _, a2, a3, a4, _, _, rfl, rfl, .inl ⟨by omega, k2⟩, _, _, rfl, rfl, _, _, rfl, rfl, _, _, rfl, rfl, k3, ?_⟩
    exact k _ (bnd_mod _ _ k3).1 (Int.lt_trans (bnd_mod _ _ k3).2 k4)
  · cases h
end
theorem n1_plain {c : Sx} {e : Expr} (h : chkN1 c e = true) : noComp e = true := by
  unfold chkN1 at h
  split at h
  · rfl
  · cases h
theorem n2_plain {c : Sx} {e : Expr} (h : chkN2 c e = true) : noComp e = true := by
  unfold chkN2 at h
  split at h
  · rfl
  · cases h
theorem ints_isD : ∀ ns : List Int, D.isDL (ns.map D.int) = true
  | [] => rfl
  | n :: ns => by simp only [List.map_cons, D.isDL, D.isD, ints_isD ns, Bool.and_self]
theorem ints_plain : ∀ ns : List Int, PyData.plainAll (D.pyL (ns.map D.int)) = true
  | [] => rfl
  | n :: ns => by
    simp only [List.map_cons, D.pyL, PyData.plainAll, ints_plain ns, Bool.and_true]
    rfl
theorem ints_okEq (ns : List Int) : okEq (.lst (ns.map .int)) (.lst []) = true := by
  have h1 : (D.lst (ns.map .int)).flat = true := by
    unfold D.flat
    simp only [D.isD, ints_isD, D.py, PyData.plain, ints_plain, Bool.and_self]
  have h2 : (D.lst []).flat = true := by decide
  have h3 : (D.lst []).py.depth ≤ 60 := by decide
  unfold okEq
  rw [h1, h2]
  simp only [Bool.and_self, Bool.true_and, decide_eq_true_eq]
  omega
theorem ints_eq (ns : List Int) : (D.lst (ns.map .int)).eq (.lst []) = ns.isEmpty := by
  cases ns <;> rfl
end Pz

set_option maxRecDepth 100000
set_option maxHeartbeats 4000000
/-! Pz, part 18: a number is drawn. -/
namespace Pz
open PySem L2 PySem.Spec PyProof.Rows

theorem draw_ok {Γ : Gam} (ok : Γ.Ok) {x qual : Str} {st : Stmt} {f : Addr} {fd : FuncData} {n0 n1 n2 n3 : Str} (F : Fun Γ.K x qual st f fd) (Sc : FnScope [n0, n1, n2, n3] [n0, n1] (defScope st))
    (hch : chkDraw ⟨[n0, n1, n2, n3], defScope st, fun _ => true⟩ (defBody st) = true) : FnZ Γ.P Γ.w Γ.K Γ.mg Γ.base CX0 (Γ.lv + 1) f fd [n0, n1] (spD Γ.K pfDraw) := by
  refine fnz_of F Sc (fun vs H Q E h => ?_) fun cdv A outer s H vs Q E hg hr hsp => ?_
  · obtain ⟨p, c, ws, k, Hs, ds, R, rfl, _, _, _, h1, h2, _⟩ := h
    match ds, h2 with
    | [.int m], _ => rw [List.length_cons, ← h1.length]; rfl
  have G : Good (Γ.at none) ⟨[n0, n1, n2, n3], defScope st, fun _ => true⟩ (cxOf CX0 Γ.P Γ.w Γ.K Γ.mg Γ.base [n0, n1, n2, n3] qual (defScope st) f cdv A outer s H E).nox :=
    ⟨rfl, rfl, rfl, rfl, rfl, rfl, rfl, rfl, Sc.nd, rfl, hg, hr, PassesOwn.never⟩
  have hu := G.hu
  obtain ⟨p, c, ws, k, Hs, ds, R, rfl, hsame, sy, hd, hr1, hpf, kk⟩ := hsp
  match ds, hpf with
  | [.int m], ⟨⟨hm0, hm1, hk⟩, hR⟩ =>
  obtain ⟨w1, w2, rfl, hw1, hw2⟩ := hr1
  cases (show w1 = _ from hw1)
  cases (show w2 = _ from hw2)
  obtain ⟨hpc, hsp, hsc, mx, ns, hp, hc, hln⟩ := hd
  generalize hb : defBody st = B at hch
  unfold chkDraw at hch
  split at hch <;> first | (cases hch; done) | skip
  simp only [Bool.and_eq_true, decide_eq_true_eq] at hch
  obtain ⟨⟨⟨⟨⟨⟨⟨⟨⟨⟨⟨⟨⟨⟨⟨⟨⟨⟨⟨⟨⟨⟨⟨vd, ⟨rfl, rfl, rfl, rfl, rfl, rfl⟩⟩, s2⟩, s1⟩, s0⟩, s0'⟩, s0''⟩, s1'⟩, lx⟩, lx1⟩, vx2⟩, vx3⟩, vm⟩, vx4⟩, vm2⟩, lx5⟩, vx6⟩, ln⟩, ln'⟩, cn1⟩, cn2⟩, ce⟩, hl1⟩, hl2⟩ := hch
  obtain ⟨x1, x2, x3⟩ := loc_ok G lx
  obtain ⟨y1, y2, y3⟩ := loc_ok G lx1
  obtain ⟨z1, z2, z3⟩ := loc_ok G lx5
  obtain ⟨u1, u2, u3⟩ := loc_ok G ln
  obtain ⟨v1, v2, v3⟩ := loc_ok G ln'
  have hNd : [n0, n1, n2, n3].Nodup := Sc.nd
  refine ⟨_, (pss_cons (ps_asg (pe_op op_add (pe_sub G s2) pe_int) (pg_sub (pv_ok G vd) pe_int set_list) rfl rfl rfl)
    (pss_cons (ps_set hNd x1 x2 (pe_sub G s1) (noComp_ok (sub_plain s1).2 _ _ _) x3)
    (pss_cons (ps_if (pt_cmpR (op_neZ hu) (pe_sub G s0) (pe_lst pa_nil) rfl)
      (pss_cons (ps_set hNd y1 y2 (pe_bm0 PySem.F.plainAttrs_list PySem.F.slot_list_pop PySem.F.type_list_pop mt_pop (pe_sub G s0') (base_ok (sub_plain s0').1 _ _ _) hl1) rfl y3)
      (pss_cons (ps_if (pt_cmpR op_ge (pv_ok G vx2) (pe_op op_pow pe_int pe_int) rfl)
        (pss_cons (ps_expr (pe_bm PySem.F.plainAttrs_list PySem.F.slot_list_append PySem.F.type_list_append mt_append (pe_sub G s0'') (pa_cons (pe_op op_fdiv (pv_ok G vx3) (pv_ok G vm)) pa_nil (star_cons rfl)) (base_ok (sub_plain s0'').1 _ _ _) (star_few rfl (by simp)) hl2 (star_cons rfl) rfl) rfl)
          (pss_one (ps_ret (pe_op op_mod (pv_ok G vx4) (pv_ok G vm2))))) pss_nil)
      (pss_one (ps_set hNd z1 z2 (pe_op op_add (pv_ok G vx6) (pe_sub G s1')) rfl z3)))) pss_nil)
    (pss_cons (ps_set hNd u1 u2 (pe_n1 G cn1) (noComp_ok (n1_plain cn1) _ _ _) u3)
    (pss_cons (ps_set hNd v1 v2 (pe_n2 G cn2) (noComp_ok (n2_plain cn2) _ _ _) v3)
    (pss_one (ps_ret (pe_end G ce)))))))).nox, ?_⟩
  -- the end
  have fin : ∀ (H' : Hp) (ns' : List Int) (i : Int), H' p = some (.lst [.ref c, .int mx, .int ((k : Int) + 1)]) → H' c = some (.lst (ns'.map V.int)) → ns'.length ≤ 63 → (∀ b o, H b = some o → b ≠ p → b ≠ c → H' b = some o) → 0 ≤ i → i < m → Q (.int i) H' := fun H' ns' i h1 h2 h3 h4 h5 h6 =>
    kk Hs H' (.int i) (.d (.int i)) (k + 1) (Same.refl _) (fun b o e => h4 b o (hsame b o e) (fun z => by rw [z, hsp] at e; cases e) fun z => by rw [z, hsc] at e; cases e) ⟨hpc, hsp, hsc, mx, ns', h1, h2, h3⟩
      (fun b o e n => h4 b o e (fun z => n (.inl z)) fun z => n (.inr z)) (fun b _ h => h) rfl (hR i h5 h6)
  have ht : (0 : Int) ≤ (k : Int) + 1 ∧ (k : Int) + 1 < 2 ^ 64 := by
    have : (k : Int) < 1099511627776 := by omega
    omega
  obtain ⟨om, φ, hom⟩ := sy
  have pm : p ≠ sysModules := fun z => by rw [z, hom] at hsp; cases hsp
  have cm : c ≠ sysModules := fun z => by rw [z, hom] at hsc; cases hsc
  show tSeq _ (tSeq _ (tSeq _ (tSeq _ (tSeq _ _)))) _ [some (V.ref p), some (V.int m), none, none] H
  refine ⟨p, _, _, rfl, SqL.of hp, rfl, _, _, rfl, rfl, .ref p, rfl, p, _, 2, 2, rfl, rfl, hp, rfl, ?_⟩
  generalize hH1 : upd H p (.lst ([V.ref c, .int mx, .int k].set 2 (.int ((k : Int) + 1)))) = H1
  have hp1 : H1 p = some (.lst [.ref c, .int mx, .int ((k : Int) + 1)]) := by rw [← hH1, upd_same]; rfl
  have ho1 : ∀ b, b ≠ p → H1 b = H b := fun b hb => by rw [← hH1, upd_ne hb]
  have hc1 : H1 c = some (.lst (ns.map V.int)) := by rw [ho1 c (Ne.symm hpc)]; exact hc
  refine ⟨p, _, _, rfl, SqL.of hp1, rfl, ?_⟩
  refine ⟨p, _, _, rfl, SqL.of hp1, rfl, by show 0 ≤ sizeLine; decide, fun l hl => ?_⟩
  have nlp : l ≠ p := fun z => by rw [z, hp1] at hl; cases hl
  have nlc : l ≠ c := fun z => by rw [z, hc1] at hl; cases hl
  have nlm : l ≠ sysModules := fun z => by rw [z, ho1 _ (Ne.symm pm), hsame _ _ hom] at hl; cases hl
  generalize hH2 : upd H1 l (.lst []) = H2
  have ho2 : ∀ b, b ≠ p → b ≠ l → H2 b = H b := fun b hb hb2 => by rw [← hH2, upd_ne hb2]; exact ho1 b hb
  have hp2 : H2 p = some (.lst [.ref c, .int mx, .int ((k : Int) + 1)]) := by rw [← hH2, upd_ne (Ne.symm nlp)]; exact hp1
  have hc2 : H2 c = some (.lst (ns.map V.int)) := by rw [← hH2, upd_ne (Ne.symm nlc)]; exact hc1
  have hl2 : H2 l = some (.lst []) := by rw [← hH2, upd_same]
  have hHl : H l = none := by rw [← ho1 l nlp]; exact hl
  have keep2 : ∀ b o, H b = some o → b ≠ p → b ≠ c → H2 b = some o := fun b o e n1 n2 => by
    by_cases z : b = l
    · rw [z, hHl] at e; cases e
    · rw [ho2 b n1 z]; exact e
  -- the end of the def, from any number in x
  refine ⟨.lst (ns.map .int), .lst [], ⟨om, φ, by rw [ho2 _ (Ne.symm pm) (Ne.symm nlm)]; exact hsame _ _ hom⟩, ⟨c, _, rfl, hc2, RpL.ints ns⟩, ⟨l, [], rfl, hl2, rfl⟩, ints_okEq ns, _, rfl, ?_⟩
  rw [ints_eq, Bool.true_xor]
  cases ns with
  | nil =>
    refine iteF ?_
    exact ⟨mx, _, p, _, rfl, rfl, SqL.of hp2, rfl, ht, fun i1 j1 j1' => ⟨i1, _, p, _, rfl, ⟨j1, j1'⟩, rfl, SqL.of hp2, rfl, ht, fun i2 j2 j2' => ⟨i2, m, rfl, rfl, ⟨j2, j2'⟩, hm0, fun i j3 j4 => fin H2 [] i hp2 hc2 (by simp) keep2 j3 j4⟩⟩⟩
  | cons n ns =>
    refine iteT ?_
    obtain ⟨z, hz⟩ : ∃ z : Int, ((n :: ns).map V.int)[((n :: ns).map V.int).length - 1]? = some (.int z) := by
      refine ⟨(n :: ns)[ns.length]'(by simp), ?_⟩
      rw [List.length_map, List.length_cons, Nat.add_sub_cancel, List.getElem?_map, List.getElem?_eq_getElem (by simp)]
      rfl
    refine ⟨p, _, _, rfl, SqL.of hp2, rfl, .inl ⟨rfl, _, SqL.of hc2⟩, c, _, _, rfl, rfl, hc2, hz, ?_⟩
    generalize hH3 : upd H2 c (.lst ((n :: ns).map V.int).dropLast) = H3
    have hp3 : H3 p = some (.lst [.ref c, .int mx, .int ((k : Int) + 1)]) := by rw [← hH3, upd_ne hpc]; exact hp2
    have hc3 : H3 c = some (.lst (((n :: ns).dropLast).map V.int)) := by rw [← hH3, upd_same, List.map_dropLast]
    have hl3 : ((n :: ns).dropLast).length ≤ 63 := by rw [List.length_dropLast]; omega
    have keep3 : ∀ b o, H b = some o → b ≠ p → b ≠ c → H3 b = some o := fun b o e n1 n2 => by rw [← hH3, upd_ne n2]; exact keep2 b o e n1 n2
    refine ⟨.int z, rfl, _, _, rfl, rfl, ⟨by decide, by decide, by decide⟩, _, _, rfl, rfl, _, rfl, ?_⟩
    refine ite2 (fun _ => ?_) (fun _ => ?_)
    · refine ⟨p, _, _, rfl, SqL.of hp3, rfl, .inl ⟨rfl, _, SqL.of hc3⟩, .int z, rfl, .int m, rfl, _, _, rfl, rfl, ⟨hm0, hm1⟩, c, _, _, rfl, rfl, hc3, by rw [List.length_map]; exact Nat.lt_of_le_of_lt hl3 (by decide), ?_⟩
      refine ⟨.int z, rfl, .int m, rfl, _, _, rfl, rfl, hm0, ?_⟩
      refine fin _ ((n :: ns).dropLast ++ [z / m]) _ (by rw [upd_ne hpc]; exact hp3) (by rw [upd_same, List.map_append]; rfl) (by rw [List.length_append, List.length_dropLast]; simp at hln ⊢; omega) (fun b o e n1 n2 => by rw [upd_ne n2]; exact keep3 b o e n1 n2) (bnd_mod _ _ hm0).1 (bnd_mod _ _ hm0).2
    · refine ⟨.int z, rfl, p, _, _, rfl, SqL.of hp3, rfl, _, _, rfl, rfl, ?_⟩
      exact ⟨_, _, p, _, rfl, rfl, SqL.of hp3, rfl, ht, fun i1 j1 j1' => ⟨i1, _, p, _, rfl, ⟨j1, j1'⟩, rfl, SqL.of hp3, rfl, ht, fun i2 j2 j2' => ⟨i2, m, rfl, rfl, ⟨j2, j2'⟩, hm0, fun i j3 j4 => fin H3 _ i hp3 hc3 hl3 keep3 j3 j4⟩⟩⟩
end Pz

set_option maxRecDepth 100000
set_option maxHeartbeats 4000000
/-! Pz, part 19: the defs of a module, one after another. -/
namespace Pz
open PySem L2 PySem.Spec PyProof.Rows

def Fs.add (F : Fs) (x : Str) (i : FnI) : Fs := ⟨fun y => if y = x then some i else F.fn y, F.kw⟩
def Fs.addK (F : Fs) (x : Str) (ks : List Str) (i : FnI) : Fs := ⟨F.fn, fun y js => if y = x ∧ js = ks then some i else F.kw y js⟩
def Fs.nil : Fs := ⟨fun _ => none, fun _ _ => none⟩
def Gam.add (Γ : Gam) (x : Str) (i : FnI) : Gam := { Γ with lv := Γ.lv + 1, F := Γ.F.add x i }
def Gam.addK (Γ : Gam) (x : Str) (ks : List Str) (i : FnI) : Gam := { Γ with F := Γ.F.addK x ks i }
def Gam.nil (P : Program) (w : World) (K : PySem.W.Frag) (mg : Str → Option Value) (base : Heap) : Gam := ⟨P, w, K, mg, base, 0, none, Fs.nil⟩
/-- a def of the module's text -/
structure DefAt (K : PySem.W.Frag) (mg : Str → Option Value) (x : Str) (st : Stmt) (ps : List Str) (f : Addr) (fd : FuncData) : Prop where
  fn : Fun K x x st f fd
  mg : mg x = some (.ref f)
  bd : Binds K fd ps []
theorem Has.up {Γ Γ' : Gam} {x : Str} {i : FnI} (h : Has Γ x i) (e1 : Γ'.P = Γ.P) (e2 : Γ'.w = Γ.w) (e3 : Γ'.K = Γ.K) (e4 : Γ'.mg = Γ.mg) (e5 : Γ'.base = Γ.base) (hl : Γ.lv ≤ Γ'.lv) : Has Γ' x i := by
  obtain ⟨f, fd, ps, k, h1, h2⟩ := h.ex
  exact ⟨f, fd, ps, k, Nat.le_trans h1 hl, by rw [e1, e2, e3, e4, e5]; exact h2⟩
theorem HasK.up {Γ Γ' : Gam} {x : Str} {ks : List Str} {i : FnI} (h : HasK Γ x ks i) (e1 : Γ'.P = Γ.P) (e2 : Γ'.w = Γ.w) (e3 : Γ'.K = Γ.K) (e4 : Γ'.mg = Γ.mg) (e5 : Γ'.base = Γ.base) (hl : Γ.lv ≤ Γ'.lv) : HasK Γ' x ks i := by
  obtain ⟨f, fd, ps, k, pf, π, h1, h2⟩ := h.ex
  exact ⟨f, fd, ps, k, pf, π, Nat.le_trans h1 hl, by rw [e1, e2, e3, e4, e5]; exact h2⟩
theorem Gam.Ok.nil {P : Program} {w : World} {K : PySem.W.Frag} {mg : Str → Option Value} {base : Heap} (nb : ∀ x ∈ blts, mg x = none) : (Gam.nil P w K mg base).Ok := ⟨fun x i h => (nomatch (show (none : Option FnI) = some i from h)), fun x ks i h => (nomatch (show (none : Option FnI) = some i from h)), nb⟩
theorem Gam.Ok.add {Γ : Gam} (ok : Γ.Ok) {x : Str} {i : FnI} {st : Stmt} {ps : List Str} {f : Addr} {fd : FuncData} (D : DefAt Γ.K Γ.mg x st ps f fd) (F : FnZ Γ.P Γ.w Γ.K Γ.mg Γ.base CX0 (Γ.lv + 1) f fd ps (i.sp Γ.K)) : (Γ.add x i).Ok := by
  refine ⟨fun y j h => ?_, fun y ks j h => (ok.kw y ks j h).up rfl rfl rfl rfl rfl (Nat.le_succ _), ok.nb⟩
  have h : (if y = x then some i else Γ.F.fn y) = some j := h
  split at h
  · rename_i e
    cases h
    subst e
    exact ⟨f, fd, ps, Γ.lv + 1, Nat.le_refl _, F, D.mg, D.fn.kp, D.bd⟩
  · exact (ok.fn y j h).up rfl rfl rfl rfl rfl (Nat.le_succ _)
/-- a def is added by its rule -/
theorem Gam.Ok.def {Γ : Gam} (ok : Γ.Ok) {x : Str} {i : FnI} {st : Stmt} {N ps : List Str} {f : Addr} {fd : FuncData} {body : List IS} (D : DefAt Γ.K Γ.mg x st ps f fd) (Sc : FnScope N ps (defScope st)) (hc : chkSs ⟨N, defScope st, fun _ => true⟩ body (defBody st) = true)
    (hl : i.Len ps.length) (hk : Keeps Γ.F N body i) : (Γ.add x i).Ok := ok.add D (def_ok ok D.fn Sc body i hl hc hk)
theorem Gam.Ok.draw {Γ : Gam} (ok : Γ.Ok) {x : Str} {st : Stmt} {n0 n1 n2 n3 : Str} {f : Addr} {fd : FuncData} (D : DefAt Γ.K Γ.mg x st [n0, n1] f fd) (Sc : FnScope [n0, n1, n2, n3] [n0, n1] (defScope st)) (hc : chkDraw ⟨[n0, n1, n2, n3], defScope st, fun _ => true⟩ (defBody st) = true) :
    (Γ.add x (.dk pfDraw)).Ok := ok.add (i := .dk pfDraw) D (draw_ok ok D.fn Sc hc)
/-- .. and by keywords -/
theorem Gam.Ok.kwd {Γ : Gam} (ok : Γ.Ok) {x : Str} {pf : List D → (Res → Prop) → Prop} {st : Stmt} {ps ks : List Str} {π : List Nat} {f : Addr} {fd : FuncData} (D : DefAt Γ.K Γ.mg x st ps f fd) (F : FnZ Γ.P Γ.w Γ.K Γ.mg Γ.base CX0 Γ.lv f fd ps (spP Γ.K pf))
    (hb : ∀ (s : Shared) (ws : List Value), Γ.K.In s.heap → ws.length = ks.length → BindsTo s fd ⟨[], ks.zip ws⟩ (ps.zip (pick π ws))) : (Γ.addK x ks (.pu fun ds R => ds.length = ks.length ∧ pf (pick π ds) R)).Ok := by
  refine ⟨fun y j h => (ok.fn y j h).up rfl rfl rfl rfl rfl (Nat.le_refl _), fun y js j h => ?_, ok.nb⟩
  have h : (if y = x ∧ js = ks then some (FnI.pu fun ds R => ds.length = ks.length ∧ pf (pick π ds) R) else Γ.F.kw y js) = some j := h
  by_cases e : y = x ∧ js = ks
  · rw [if_pos e] at h
    have h9 := (Option.some.inj h).symm
    obtain ⟨e1, e2⟩ := e
    rw [e1, e2, h9]
    exact ⟨f, fd, ps, Γ.lv, pf, π, Nat.le_refl _, F, D.mg, D.fn.kp, hb, rfl⟩
  · rw [if_neg e] at h
    exact (ok.kw y js j h).up rfl rfl rfl rfl rfl (Nat.le_refl _)
theorem Gam.Ok.defK {Γ : Gam} (ok : Γ.Ok) {x : Str} {pf : List D → (Res → Prop) → Prop} {st : Stmt} {N ps ks : List Str} {π : List Nat} {f : Addr} {fd : FuncData} {body : List IS} (D : DefAt Γ.K Γ.mg x st ps f fd) (Sc : FnScope N ps (defScope st)) (hc : chkSs ⟨N, defScope st, fun _ => true⟩ body (defBody st) = true)
    (hl : FnI.Len ps.length (.pu pf)) (hk : Keeps Γ.F N body (.pu pf)) (hb : ∀ (s : Shared) (ws : List Value), Γ.K.In s.heap → ws.length = ks.length → BindsTo s fd ⟨[], ks.zip ws⟩ (ps.zip (pick π ws))) :
    ((Γ.add x (.pu pf)).addK x ks (.pu fun ds R => ds.length = ks.length ∧ pf (pick π ds) R)).Ok :=
  (ok.def D Sc hc hl hk).kwd (Γ := Γ.add x (.pu pf)) (st := st) D (def_ok ok D.fn Sc body (.pu pf) hl hc hk) hb
/-- how the keywords bind: by computing -/
theorem Fun.kwb {K : PySem.W.Frag} {x qual : Str} {st : Stmt} {f : Addr} {fd : FuncData} (F : Fun K x qual st f fd) {ps ks : List Str} {π : List Nat}
    (h : ∀ (kV doc pm : Value) (an : Option Addr) (cdv ct : Value) (ws : List Value), ws.length = ks.length → bindArgs (PySem.W.fnOf x qual (defArgs st) (defBody st) (defScope st) .none kV doc pm an cdv ct) ⟨[], ks.zip ws⟩ = pure (ps.zip (pick π ws))) :
    ∀ (s : Shared) (ws : List Value), K.In s.heap → ws.length = ks.length → BindsTo s fd ⟨[], ks.zip ws⟩ (ps.zip (pick π ws)) := by
  obtain ⟨oc, od, kV, doc, pm, an, cdv, ct, osl, rfl, lk, hcd⟩ := F.ex
  exact fun s ws _ hl => .of_eq (h kV doc pm an cdv ct ws hl)
theorem defAt_mk {K : PySem.W.Frag} {h : Heap} {mg : Str → Option Value} (X : K.In h) (G : h.Ns mainGlobals mg) {x : Str} {st : Stmt} {ps : List Str} {f : Addr} {oc : Value} {od an : Option Addr} {osl : Array (Option Value)} {kV doc pm cdv ct : Value}
    (a : PySem.W.nsIn K mainGlobals x = some (some (.ref f))) (l : K.lookup f = some ⟨oc, od, .func (PySem.W.fnOf x x (defArgs st) (defBody st) (defScope st) .none kV doc pm an cdv ct), osl⟩)
    (c : PySem.W.codeIn K cdv x = true) (k : PySem.W.keepIn K (.ref f) = true)
    (b : ∀ (kV doc pm : Value) (an : Option Addr) (cdv ct : Value) (us : List Value), us.length = ps.length → bindArgs (PySem.W.fnOf x x (defArgs st) (defBody st) (defScope st) .none kV doc pm an cdv ct) ⟨us, []⟩ = pure (ps.zip us)) :
    ∃ (f : Addr) (fd : FuncData), DefAt K mg x st ps f fd :=
  ⟨f, _, ⟨fun_mk l c k, PySem.W.mg_of X G a, (fun_mk l c k).binds b⟩⟩
theorem blts_mk {K : PySem.W.Frag} {h : Heap} {mg : Str → Option Value} (X : K.In h) (G : h.Ns mainGlobals mg) (z : ∀ x ∈ blts, PySem.W.nsIn K mainGlobals x = some none) : ∀ x ∈ blts, mg x = none := fun x hx => PySem.W.mg_none_of X G (z x hx)
theorem fn_eq {Γ : Gam} {x : Str} {i : FnI} : (Γ.add x i).F.fn x = some i := if_pos rfl
theorem fn_ne {Γ : Gam} {x y : Str} {i j : FnI} (h : y ≠ x) (g : Γ.F.fn y = some j) : (Γ.add x i).F.fn y = some j := (if_neg h).trans g
theorem fn_k {Γ : Gam} {x y : Str} {ks : List Str} {i j : FnI} (g : Γ.F.fn y = some j) : (Γ.addK x ks i).F.fn y = some j := g
theorem kw_eq {Γ : Gam} {x : Str} {ks : List Str} {i : FnI} : (Γ.addK x ks i).F.kw x ks = some i := if_pos ⟨rfl, rfl⟩
theorem kw_ne {Γ : Gam} {x y : Str} {ks js : List Str} {i j : FnI} (h : ¬ (y = x ∧ js = ks)) (g : Γ.F.kw y js = some j) : (Γ.addK x ks i).F.kw y js = some j := (if_neg h).trans g
theorem kw_a {Γ : Gam} {x y : Str} {js : List Str} {i j : FnI} (g : Γ.F.kw y js = some j) : (Γ.add x i).F.kw y js = some j := g
end Pz

set_option maxRecDepth 100000
set_option maxHeartbeats 4000000
/-! Pz, part 20: how large a datum is. -/
namespace Pz
open PySem L2 PySem.Spec PyProof.Rows

/-- small enough to be shown: leaves of at most B signs, n parts, k deep -/
structure Sm (B n k : Nat) (d : D) : Prop where
  isD : d.isD = true
  sh : d.py.showable = true
  lv : d.py.leavesShort B = true
  bk : d.py.bulk ≤ n
  dp : d.py.depth ≤ k
section
variable {B n k : Nat} {d : D}
theorem Sm.mono {n' k' : Nat} (h : Sm B n k d) (h1 : n ≤ n') (h2 : k ≤ k') : Sm B n' k' d := ⟨h.isD, h.sh, h.lv, Nat.le_trans h.bk h1, Nat.le_trans h.dp h2⟩
theorem Sm.show (h : Sm B n k d) (hB : 8 ≤ B) (hs : (B + 2) * n + B ≤ sizeLine) (hk : k ≤ 60) : okShow d = true ∧ d.py.shown.length ≤ sizeLine := by
  refine ⟨by simp only [okShow, h.isD, h.sh, Bool.and_self, Bool.true_and, decide_eq_true_eq]; exact Nat.le_trans h.dp hk, ?_⟩
  have := PyData.shown_le_bulk B hB d.py h.lv
  have h2 : (B + 2) * d.py.bulk ≤ (B + 2) * n := Nat.mul_le_mul_left _ h.bk
  omega
theorem Sm.non : Sm B n k .non := ⟨rfl, rfl, rfl, Nat.zero_le _, Nat.zero_le _⟩
theorem Sm.bl {b : Bool} : Sm B n k (.bl b) := ⟨rfl, rfl, rfl, Nat.zero_le _, Nat.zero_le _⟩
theorem shown_int {i : Int} (h1 : -(10 ^ 42) < i) (h2 : i < 10 ^ 42) : (PyData.shown (.int i)).length ≤ 43 := by
  show (Str.ofString (toString i)).length ≤ 43
  by_cases h0 : 0 ≤ i
  · exact Nat.le_trans (toString_length_le h0 (by decide) h2) (by decide)
  · have e := len_text_negI (n := i) (by omega)
    have := toString_length_le (v := 0 - i) (k := 42) (by omega) (by decide) (by omega)
    omega
theorem Sm.int {i : Int} (hB : 43 ≤ B) (h1 : -(10 ^ 42) < i) (h2 : i < 10 ^ 42) : Sm B n k (.int i) := by
  refine ⟨rfl, ?_, ?_, Nat.zero_le _, Nat.zero_le _⟩
  · show decide (i.natAbs.log2 < 1920) = true
    rw [decide_eq_true_eq]
    by_cases z : i.natAbs = 0
    · rw [z]; decide
    · refine (Nat.log2_lt z).mpr ?_
      have : i.natAbs < 10 ^ 42 := by omega
      exact Nat.lt_of_lt_of_le this (by decide)
  · show decide ((PyData.shown (.int i)).length ≤ B) = true
    rw [decide_eq_true_eq]
    exact Nat.le_trans (shown_int h1 h2) hB
theorem Sm.str {x : Str} (h : ∀ c ∈ x.cps.toList, c < 128) (hl : x.length ≤ n) : Sm B n k (.str x) := by
  refine ⟨rfl, rfl, ?_, hl, Nat.zero_le _⟩
  show (x.cps.toList.all fun c => decide (c < 16 ^ 8)) = true
  rw [List.all_eq_true]
  exact fun c hc => by rw [decide_eq_true_eq]; exact Nat.lt_of_lt_of_le (h c hc) (by decide)
theorem sm_all : ∀ {ds : List D}, (∀ d ∈ ds, Sm B n k d) → D.isDL ds = true ∧ PyData.showableAll (D.pyL ds) = true ∧ PyData.leavesShortAll B (D.pyL ds) = true ∧ PyData.bulkAll (D.pyL ds) ≤ ds.length * (n + 1) ∧ PyData.depthAll (D.pyL ds) ≤ k
  | [], _ => ⟨rfl, rfl, rfl, Nat.zero_le _, Nat.zero_le _⟩
  | d :: ds, h => by
    obtain ⟨h1, h2, h3, h4, h5⟩ := sm_all (ds := ds) fun x hx => h x (List.mem_cons_of_mem _ hx)
    have h0 := h d List.mem_cons_self
    refine ⟨?_, ?_, ?_, ?_, ?_⟩
    · simp only [D.isDL, h0.isD, h1, Bool.and_self]
    · simp only [D.pyL, PyData.showableAll, h0.sh, h2, Bool.and_self]
    · simp only [D.pyL, PyData.leavesShortAll, h0.lv, h3, Bool.and_self]
    · simp only [D.pyL, PyData.bulkAll, List.length_cons, Nat.succ_mul]
      have := h0.bk
      omega
    · simp only [D.pyL, PyData.depthAll]
      exact Nat.max_le.mpr ⟨h0.dp, h5⟩
theorem Sm.lst {ds : List D} (h : ∀ d ∈ ds, Sm B n k d) : Sm B (ds.length * (n + 1)) (k + 1) (.lst ds) := by
  obtain ⟨h1, h2, h3, h4, h5⟩ := sm_all h
  refine ⟨?_, ?_, ?_, ?_, ?_⟩
  · simp only [D.isD, h1]
  · simp only [D.py, PyData.showable, h2]
  · simp only [D.py, PyData.leavesShort, h3]
  · simp only [D.py, PyData.bulk]; exact h4
  · simp only [D.py, PyData.depth]; omega
theorem Sm.tup {ds : List D} (h : ∀ d ∈ ds, Sm B n k d) : Sm B (ds.length * (n + 1)) (k + 1) (.tup ds) := by
  obtain ⟨h1, h2, h3, h4, h5⟩ := sm_all h
  refine ⟨?_, ?_, ?_, ?_, ?_⟩
  · simp only [D.isD, h1]
  · simp only [D.py, PyData.showable, h2]
  · simp only [D.py, PyData.leavesShort, h3]
  · simp only [D.py, PyData.bulk]; exact h4
  · simp only [D.py, PyData.depth]; omega
theorem Sm.lst' {m k' : Nat} {ds : List D} (h : ∀ d ∈ ds, Sm B n k d) (hm : ds.length ≤ m) (hk : k + 1 ≤ k') : Sm B (m * (n + 1)) k' (.lst ds) := (Sm.lst h).mono (Nat.mul_le_mul_right _ hm) hk
theorem Sm.tup' {m k' : Nat} {ds : List D} (h : ∀ d ∈ ds, Sm B n k d) (hm : ds.length ≤ m) (hk : k + 1 ≤ k') : Sm B (m * (n + 1)) k' (.tup ds) := (Sm.tup h).mono (Nat.mul_le_mul_right _ hm) hk
end
/-- plain comparisons of texts -/
theorem okEq_str (x y : Str) : okEq (.str x) (.str y) = true := by
  unfold okEq D.flat
  simp [D.isD, D.py, PyData.plain, PyData.depth]
theorem eq_str (x y : Str) : (D.str x).eq (.str y) = decide (x = y) := by
  show PyData.eqv (.str x) (.str y) = _
  simp [PyData.eqv, Bool.beq_eq_decide_eq]
theorem okEq_int (x y : Int) : okEq (.int x) (.int y) = true := by
  unfold okEq D.flat
  simp [D.isD, D.py, PyData.plain, PyData.depth]
theorem eq_int (x y : Int) : (D.int x).eq (.int y) = decide (x = y) := by
  show PyData.eqv (.int x) (.int y) = _
  simp [PyData.eqv, Bool.beq_eq_decide_eq]
/-! ### sorted texts -/
theorem okSort_strs {xs : List D} (h : ∀ d ∈ xs, ∃ x, d = .str x) (hl : xs.length ≤ sizeLine) : okSort xs := by
  refine ⟨fun d hd d' hd' => ?_, .inr fun d hd => ?_, fun d hd => ?_, hl⟩
  · obtain ⟨a, ha, rfl⟩ := List.mem_map.mp hd
    obtain ⟨b, hb, rfl⟩ := List.mem_map.mp hd'
    obtain ⟨x, rfl⟩ := h a ha
    obtain ⟨y, rfl⟩ := h b hb
    rfl
  · obtain ⟨a, ha, rfl⟩ := List.mem_map.mp hd
    obtain ⟨x, rfl⟩ := h a ha
    refine ⟨fun z => ?_, fun ys z => ?_⟩
    · simp only [D.py] at z; cases z
    · simp only [D.py] at z; cases z
  · obtain ⟨x, rfl⟩ := h d hd
    exact ⟨rfl, Nat.zero_le _⟩
theorem sortD_len (xs : List D) : (sortD xs).length = xs.length := List.length_mergeSort xs
theorem sortD_mem {xs : List D} {d : D} : d ∈ sortD xs ↔ d ∈ xs := List.mem_mergeSort
end Pz

set_option maxRecDepth 100000
set_option maxHeartbeats 4000000
/-! Pz, part 21: reading a short form, step by step. -/
namespace Pz
open PySem L2 PySem.Spec PyProof.Rows

section
variable {ρ : S} {R : Res → S → Prop} {K : Bool → Prop} {i j : Nat} {x y : D} {xs ys : List D} {ks : List Key} {b : B} {z : Str} {o : O} {os : List O} {Q : Res → Prop}
theorem zfz_d : (Res.d x).fz = .d x := rfl
theorem zfz_l : (Res.l xs).fz = .d (.lst xs) := rfl
theorem zfz_m : (Res.m ks xs).fz = .d (.dic ks xs) := rfl
theorem zfz_p : (Res.p i).fz = .p i := rfl
def datO : Option (Option B) → Option D
  | some (some b) => some b.dat
  | _ => none
theorem zdatO : datO (some (some b)) = some b.dat := rfl
theorem zdat_d : (B.d x).dat = x := rfl
theorem zdat_l : (B.l xs).dat = .lst xs := rfl
theorem zdat_m : (B.m ks xs).dat = .dic ks xs := rfl
theorem zlook_d : O.look ρ (.d x) = some x := rfl
theorem zlook_p : O.look ρ (.p i) = datO ρ.v[i]? := by
  show (match ρ.v[i]? with
    | some (some x) => some x.dat
    | _ => none) = _
  unfold datO
  rcases ρ.v[i]? with _ | _ | b <;> rfl
theorem zofz_d : O.fz ρ (.d x) = ρ := rfl
theorem zofz_p : O.fz ρ (.p i) = ρ.fz i := rfl
def fzO : Option (Option B) → Nat → S → S
  | some (some b), i, ρ => ⟨ρ.v.set i (some (.d b.dat)), ρ.k⟩
  | _, _, ρ => ρ
theorem zfzO : fzO (some (some b)) i ρ = ⟨ρ.v.set i (some (.d b.dat)), ρ.k⟩ := rfl
theorem zfz : ρ.fz i = fzO ρ.v[i]? i ρ := by
  unfold S.fz fzO
  rcases ρ.v[i]? with _ | _ | b <;> rfl
def consO : Option D → Option (List D) → Option (List D)
  | some x, some xs => some (x :: xs)
  | _, _ => none
theorem zconsO : consO (some x) (some xs) = some (x :: xs) := rfl
theorem zlooks_nil : looks ρ [] = some [] := rfl
theorem zlooks_cons : looks ρ (o :: os) = consO (o.look ρ) (looks ρ os) := by
  show (match o.look ρ, looks ρ os with
    | some x, some xs => some (x :: xs)
    | _, _ => none) = _
  rcases o.look ρ with _ | x <;> rcases looks ρ os with _ | xs <;> rfl
theorem zfzs_nil : fzs ρ [] = ρ := rfl
theorem zfzs_cons : fzs ρ (o :: os) = fzs (o.fz ρ) os := rfl
def wvO : Option (Option B) → Nat → S → (Res → S → Prop) → Prop
  | some (some (.d x)), _, ρ, R => R (.d x) ρ
  | some (some (.l _)), i, ρ, R => R (.p i) ρ
  | some (some (.m _ _)), i, ρ, R => R (.p i) ρ
  | _, _, _, _ => False
theorem zwvO_d : wvO (some (some (.d x))) i ρ R = R (.d x) ρ := rfl
theorem zwvO_l : wvO (some (some (.l xs))) i ρ R = R (.p i) ρ := rfl
theorem zwvO_m : wvO (some (some (.m ks xs))) i ρ R = R (.p i) ρ := rfl
theorem zwv : wv i ρ R = wvO ρ.v[i]? i ρ R := by
  unfold wv wvO
  rcases ρ.v[i]? with _ | _ | b
  · rfl
  · rfl
  · cases b <;> rfl
theorem zset : ρ.set i b = ⟨ρ.v.set i (some b), ρ.k⟩ := rfl
theorem zput_d : ρ.put i (.d x) = ⟨ρ.v.set i (some (.d x)), ρ.k⟩ := rfl
theorem zput_l : ρ.put i (.l xs) = ⟨ρ.v.set i (some (.l xs)), ρ.k⟩ := rfl
theorem zput_m : ρ.put i (.m ks xs) = ⟨ρ.v.set i (some (.m ks xs)), ρ.k⟩ := rfl
def putO : Option D → Nat → Nat → S → S
  | some x, i, j, ρ => (ρ.fz j).set i (.d x)
  | none, _, _, ρ => ρ
theorem zputO : putO (some x) i j ρ = (ρ.fz j).set i (.d x) := rfl
theorem zput_p : ρ.put i (.p j) = putO (O.look ρ (.p j)) i j ρ := by
  show (match O.look ρ (.p j) with
    | some x => S.set (ρ.fz j) i (B.d x)
    | none => ρ) = _
  rcases O.look ρ (.p j) with _ | x <;> rfl
theorem zpush_d : ρ.push (.d x) = ⟨ρ.v ++ [some (.d x)], ρ.k⟩ := rfl
theorem zpush_l : ρ.push (.l xs) = ⟨ρ.v ++ [some (.l xs)], ρ.k⟩ := rfl
theorem zpush_m : ρ.push (.m ks xs) = ⟨ρ.v ++ [some (.m ks xs)], ρ.k⟩ := rfl
def pushO : Option D → Nat → S → S
  | some x, i, ρ => ⟨(ρ.fz i).v ++ [some (.d x)], ρ.k⟩
  | none, _, ρ => ⟨ρ.v ++ [none], ρ.k⟩
theorem zpushO : pushO (some x) i ρ = ⟨(ρ.fz i).v ++ [some (.d x)], ρ.k⟩ := rfl
theorem zpush_p : ρ.push (.p i) = pushO (O.look ρ (.p i)) i ρ := by
  show (match O.look ρ (.p i) with
    | some x => S.mk ((ρ.fz i).v ++ [some (B.d x)]) ρ.k
    | none => S.mk (ρ.v ++ [none]) ρ.k) = _
  rcases O.look ρ (.p i) with _ | x <;> rfl
theorem zmvs_nil : ρ.mvs [] = ρ := rfl
theorem zmvs_cons {is : List Nat} : ρ.mvs (i :: is) = (ρ.mv i).mvs is := rfl
theorem zout_d : (Res.d x).out ρ = some (.d x) := rfl
theorem zout_l : (Res.l xs).out ρ = some (.l xs) := rfl
theorem zout_m : (Res.m ks xs).out ρ = some (.m ks xs) := rfl
def outO : Option (Option B) → Option Res
  | some (some (.d x)) => some (.d x)
  | some (some (.l xs)) => some (.l xs)
  | some (some (.m ks xs)) => some (.m ks xs)
  | _ => none
theorem zoutO_d : outO (some (some (.d x))) = some (.d x) := rfl
theorem zoutO_l : outO (some (some (.l xs))) = some (.l xs) := rfl
theorem zoutO_m : outO (some (some (.m ks xs))) = some (.m ks xs) := rfl
theorem zout_p : (Res.p i).out ρ = outO ρ.v[i]? := by
  show (match ρ.v[i]? with
    | some (some (.d x)) => some (Res.d x)
    | some (some (.l xs)) => some (Res.l xs)
    | some (some (.m ks xs)) => some (Res.m ks xs)
    | _ => none) = _
  unfold outO
  rcases ρ.v[i]? with _ | _ | b
  · rfl
  · rfl
  · cases b <;> rfl
theorem ztru_non : tru .non K = K false := rfl
theorem ztru_bl {c : Bool} : tru (.bl c) K = K c := rfl
theorem ztru_int {n : Int} : tru (.int n) K = K (n != 0) := rfl
theorem ztru_str : tru (.str z) K = (z.length ≤ sizeLine ∧ K ((z.length : Int) != 0)) := rfl
theorem ztru_lst : tru (.lst xs) K = K (!xs.isEmpty) := rfl
theorem ztru_tup : tru (.tup xs) K = K (!xs.isEmpty) := rfl
theorem ztru_dic : tru (.dic ks xs) K = K (!ks.isEmpty) := rfl
theorem zadd_i {m n : Int} : fAdd (.int m) (.int n) Q = Q (.d (.int (m + n))) := rfl
theorem zadd_s {z' : Str} : fAdd (.str z) (.str z') Q = (z.length + z'.length ≤ sizeLine ∧ Q (.d (.str (z ++ z')))) := rfl
theorem zadd_l : fAdd (.lst xs) (.lst ys) Q = (xs.length + ys.length ≤ sizeLine ∧ Q (.l (xs ++ ys))) := rfl
theorem zadd_t : fAdd (.tup xs) (.tup ys) Q = (xs.length + ys.length ≤ sizeLine ∧ Q (.d (.tup (xs ++ ys)))) := rfl
theorem zsub {m n : Int} : fSub (.int m) (.int n) Q = Q (.d (.int (m - n))) := rfl
theorem zmul_i {m n : Int} : fMul (.int m) (.int n) Q = (CMul m n ∧ Q (.d (.int (m * n)))) := rfl
theorem zmul_l {n : Int} : fMul (.lst xs) (.int n) Q = ((-(2 ^ 63) ≤ n ∧ n < 2 ^ 63 ∧ xs.length * n.toNat ≤ sizeLine) ∧ Q (.l (List.replicate n.toNat xs).flatten)) := rfl
theorem zmul_s {n : Int} : fMul (.str z) (.int n) Q = ((-(2 ^ 63) ≤ n ∧ n < 2 ^ 63 ∧ z.length * n.toNat ≤ sizeLine) ∧ Q (.d (.str (strRep z n)))) := rfl
theorem zmul_t {n : Int} : fMul (.tup xs) (.int n) Q = ((xs ≠ [] ∧ 2 ≤ n ∧ n ≤ 1000 ∧ xs.length ≤ 1000) ∧ Q (.d (.tup (List.replicate n.toNat xs).flatten))) := rfl
theorem zdiv {m n : Int} : fDiv (.int m) (.int n) Q = (CDiv m n ∧ Q (.d (.int (m / n)))) := rfl
theorem zmod {m n : Int} : fMod (.int m) (.int n) Q = (0 < n ∧ Q (.d (.int (m % n)))) := rfl
theorem zpow {m n : Int} : fPow (.int m) (.int n) Q = (CPow m n ∧ Q (.d (.int (m ^ n.toNat)))) := rfl
theorem zneg {m : Int} : fNeg (.int m) Q = Q (.d (.int (-m))) := rfl
theorem zlt_i {m n : Int} : fLt (.int m) (.int n) Q = Q (.d (.bl (decide (m < n)))) := rfl
theorem zle_i {m n : Int} : fLe (.int m) (.int n) Q = Q (.d (.bl (decide (m ≤ n)))) := rfl
theorem zgt_i {m n : Int} : fGt (.int m) (.int n) Q = Q (.d (.bl (decide (n < m)))) := rfl
theorem zge_i {m n : Int} : fGe (.int m) (.int n) Q = Q (.d (.bl (decide (n ≤ m)))) := rfl
theorem zlt_s {z' : Str} : fLt (.str z) (.str z') Q = Q (.d (.bl (ltS z z'))) := rfl
theorem zle_s {z' : Str} : fLe (.str z) (.str z') Q = Q (.d (.bl (!ltS z' z))) := rfl
theorem zgt_s {z' : Str} : fGt (.str z) (.str z') Q = Q (.d (.bl (ltS z' z))) := rfl
theorem zge_s {z' : Str} : fGe (.str z) (.str z') Q = Q (.d (.bl (!ltS z z'))) := rfl
theorem zeq_i {m n : Int} : fEq (.int m) (.int n) Q = Q (.d (.bl (decide (m = n)))) := by
  unfold fEq; rw [okEq_int, eq_int]; simp
theorem zne_i {m n : Int} : fNe (.int m) (.int n) Q = Q (.d (.bl (!decide (m = n)))) := by
  unfold fNe; rw [okEq_int, eq_int]; simp
theorem zeq_s {z' : Str} : fEq (.str z) (.str z') Q = Q (.d (.bl (decide (z = z')))) := by
  unfold fEq; rw [okEq_str, eq_str]; simp
theorem zne_s {z' : Str} : fNe (.str z) (.str z') Q = Q (.d (.bl (!decide (z = z')))) := by
  unfold fNe; rw [okEq_str, eq_str]; simp
theorem zis {neg : Bool} : fIs neg x .non Q = Q (.d (.bl (neg ^^ x.isNon))) := by cases x <;> rfl
theorem zis_b {neg c e : Bool} : fIs neg (.bl c) (.bl e) Q = Q (.d (.bl (neg ^^ decide (c = e)))) := rfl
theorem zix_l {n : Int} : fIx (.lst xs) (.int n) Q = ∃ d, atI xs n = some d ∧ Q (.d d) := rfl
theorem zix_t {n : Int} : fIx (.tup xs) (.int n) Q = ∃ d, atI xs n = some d ∧ Q (.d d) := rfl
theorem zix_s {n : Int} : fIx (.str z) (.int n) Q = ∃ c, z.length ≤ sizeLine ∧ atI z.cps.toList n = some c ∧ Q (.d (.str ⟨#[c]⟩)) := rfl
theorem zsl_l {lo hi : Option Int} : fSl (.lst xs) lo hi Q = Q (.l (cutD xs lo hi)) := rfl
theorem zsl_t {lo hi : Option Int} : fSl (.tup xs) lo hi Q = Q (.d (.tup (cutD xs lo hi))) := rfl
theorem zsl_s {lo hi : Option Int} : fSl (.str z) lo hi Q = (z.length ≤ sizeLine ∧ Q (.d (.str (cutS z lo hi)))) := rfl
theorem zlen_s : gLen [.str z] Q = (z.length ≤ sizeLine ∧ Q (.d (.int z.length))) := rfl
theorem zlen_l : gLen [.lst xs] Q = Q (.d (.int xs.length)) := rfl
theorem zlen_t : gLen [.tup xs] Q = Q (.d (.int xs.length)) := rfl
theorem zlen_d : gLen [.dic ks xs] Q = Q (.d (.int ks.length)) := rfl
theorem ztup_l : gTuple [.lst xs] Q = Q (.d (.tup xs)) := rfl
theorem ztup_t : gTuple [.tup xs] Q = Q (.d (.tup xs)) := rfl
theorem zlist_l : gList [.lst xs] Q = Q (.l xs) := rfl
theorem zlist_t : gList [.tup xs] Q = Q (.l xs) := rfl
theorem zmax {m n : Int} : gMax [.int m, .int n] Q = Q (.d (.int (if n > m then n else m))) := rfl
theorem zmin {m n : Int} : gMin [.int m, .int n] Q = Q (.d (.int (if n < m then n else m))) := rfl
theorem zall : gAll [.lst xs] Q = ∃ ns : List Bool, xs = ns.map D.bl ∧ Q (.d (.bl (ns.all id))) := rfl
theorem zany : gAny [.lst xs] Q = ∃ ns : List Bool, xs = ns.map D.bl ∧ Q (.d (.bl (ns.any id))) := rfl
theorem zsum : gSum [.lst xs] Q = ∃ ns : List Int, xs = ns.map D.int ∧ Q (.d (.int ns.sum)) := rfl
theorem zsorted : gSorted [.lst xs] Q = (okSort xs ∧ Q (.l (sortD xs))) := rfl
theorem zrepr : gRepr [x] Q = (okShow x = true ∧ x.py.shown.length ≤ sizeLine ∧ Q (.d (.str x.py.shown))) := rfl
theorem zset_nm : Tg.set (.nm i) x ρ = some (ρ.set i (.d x)) := rfl
theorem zset_tt {ts : List Tg} : Tg.set (.tup ts) (.tup xs) ρ = Tg.sets ts xs ρ := rfl
theorem zset_tl {ts : List Tg} : Tg.set (.tup ts) (.lst xs) ρ = Tg.sets ts xs ρ := rfl
theorem zsets_nil : Tg.sets [] [] ρ = some ρ := rfl
theorem zsets_cons {t : Tg} {ts : List Tg} : Tg.sets (t :: ts) (x :: xs) ρ = (t.set x ρ).bind fun ρ' => Tg.sets ts xs ρ' := by
  show (match t.set x ρ with
    | some ρ' => Tg.sets ts xs ρ'
    | none => none) = _
  rcases t.set x ρ with _ | r <;> rfl
def seqK : D → (List D → Prop) → Prop
  | .lst xs, K => K xs
  | .tup xs, K => K xs
  | .str z, K => K (z.cps.toList.map fun c => .str ⟨#[c]⟩)
  | _, _ => False
theorem zseqK_l {K : List D → Prop} : seqK (.lst xs) K = K xs := rfl
theorem zseqK_t {K : List D → Prop} : seqK (.tup xs) K = K xs := rfl
theorem zseqK_s {K : List D → Prop} : seqK (.str z) K = K (z.cps.toList.map fun c => .str ⟨#[c]⟩) := rfl
theorem zseq {a : W} {K : List D → S → Prop} : wiSeq a ρ K = a ρ fun r ρ' => ∃ x, r.fz.look ρ' = some x ∧ seqK x fun xs => K xs (r.fz.fz ρ') := by
  unfold wiSeq
  congr 1
  funext r ρ'
  congr 1
  funext x
  cases x <;> rfl
theorem zcall_pu {dk : Option (Addr × Addr)} {pf : List D → (Res → Prop) → Prop} {t : WA} : wCall dk (.pu pf) t ρ R = t ρ fun os ρ' => ∃ ds, looks ρ' os = some ds ∧ pf ds fun z => R z (fzs ρ' os) := rfl
def dkK (p : Addr) : List D → (List D → Prop) → Prop
  | .cst (.ref q) :: es, K => p = q ∧ K es
  | _, _ => False
theorem zdkK {p q : Addr} {K : List D → Prop} : dkK p (.cst (.ref q) :: xs) K = (p = q ∧ K xs) := rfl
theorem zcall_dk {p c : Addr} {pf : List D → Nat → (Res → Nat → Prop) → Prop} {t : WA} : wCall (some (p, c)) (.dk pf) t ρ R = t ρ fun os ρ' => ∃ ds, looks ρ' os = some ds ∧ dkK p ds fun es => pf es ρ'.k fun z k => R z ⟨(fzs ρ' os).v, k⟩ := by
  show (t ρ fun os ρ' => ∃ ds, looks ρ' os = some ds ∧ match some (p, c), ds with
    | some (p, _), .cst (.ref q) :: es => p = q ∧ pf es ρ'.k fun z k => R z { fzs ρ' os with k := k }
    | _, _ => False) = _
  congr 1
  funext os ρ'
  congr 1
  funext ds
  rcases ds with _ | ⟨d, es⟩
  · rfl
  · cases d with
    | cst v => cases v <;> rfl
    | _ => rfl
theorem zfor_nil {g : WG} {b : WS} {c : C} : forGo g b [] ρ c = c.nx ρ := rfl
theorem zfor_cons {g : WG} {b : WS} {c : C} : forGo g b (x :: xs) ρ c = ∃ ρ', g x ρ = some ρ' ∧ b ρ' { nx := fun ρ2 => forGo g b xs ρ2 c, ct := fun ρ2 => forGo g b xs ρ2 c, rt := c.rt, bk := c.nx } := rfl
theorem zlc_nil {g : WG} {vs : List Nat} {tt : WT} {te : W} {acc : List D} : lcGo g vs tt te [] acc ρ R = R (.l acc) ρ := rfl
theorem zlc_cons {g : WG} {vs : List Nat} {tt : WT} {te : W} {acc : List D} : lcGo g vs tt te (x :: xs) acc ρ R = ∃ ρ', g x (ρ.uns vs) = some ρ' ∧ tt ρ' fun b ρ2 => if b = true then te ρ2 fun r ρ3 => ∃ d, r.fz.look ρ3 = some d ∧ acc.length < sizeLine ∧ lcGo g vs tt te xs (acc ++ [d]) (ρ.back (r.fz.fz ρ3) vs) R
      else lcGo g vs tt te xs acc (ρ.back ρ2 vs) R := rfl
theorem zuns_nil : ρ.uns [] = ρ := rfl
theorem zuns_cons {vs : List Nat} : ρ.uns (i :: vs) = ⟨(ρ.uns vs).v.set i none, (ρ.uns vs).k⟩ := rfl
def bkO : Option (Option B) → Option B
  | some (some (.d x)) => some (.d x)
  | _ => none
theorem zbkO_d : bkO (some (some (.d x))) = some (.d x) := rfl
theorem zbkO_l : bkO (some (some (.l xs))) = none := rfl
theorem zbkO_m : bkO (some (some (.m ks xs))) = none := rfl
theorem zbkO_n : bkO (some none) = none := rfl
theorem zbkO_0 : bkO none = none := rfl
theorem zback_nil {ρ' : S} : ρ.back ρ' [] = ρ' := rfl
theorem zback_cons {ρ' : S} {vs : List Nat} : ρ.back ρ' (i :: vs) = ⟨(ρ.back ρ' vs).v.set i (bkO ρ.v[i]?), (ρ.back ρ' vs).k⟩ := by
  show S.back1 ρ (ρ.back ρ' vs) i = _
  unfold S.back1 bkO
  rcases ρ.v[i]? with _ | _ | b
  · rfl
  · rfl
  · cases b <;> rfl
/-- a walk of a list of its own names' places that nothing else has -/
theorem kbs (b : Bool) : (b = true) = (b = true) := rfl
end
end Pz

set_option maxRecDepth 100000
set_option maxHeartbeats 4000000
/-! Pz, part 22: loops by what stays true. -/
namespace Pz
open PySem L2 PySem.Spec PyProof.Rows

def lcStep (g : WG) (vs : List Nat) (tt : WT) (te : W) (x : D) (acc : List D) (ρ : S) (Kc : List D → S → Prop) : Prop :=
  ∃ ρ', g x (ρ.uns vs) = some ρ' ∧ tt ρ' fun b ρ2 => if b = true then te ρ2 fun r ρ3 => ∃ d, r.fz.look ρ3 = some d ∧ acc.length < sizeLine ∧ Kc (acc ++ [d]) (ρ.back (r.fz.fz ρ3) vs) else Kc acc (ρ.back ρ2 vs)
section
variable {g : WG} {vs : List Nat} {tt : WT} {te : W} {ρ : S} {R : Res → S → Prop} {xs : List D}
theorem lcg_inv (I : Nat → List D → S → Prop) (h0 : I 0 [] ρ) (h : ∀ i x acc ρ (Kc : List D → S → Prop), xs[i]? = some x → I i acc ρ → (∀ acc' ρ', I (i + 1) acc' ρ' → Kc acc' ρ') → lcStep g vs tt te x acc ρ Kc)
    (hR : ∀ acc ρ, I xs.length acc ρ → R (.l acc) ρ) : lcGo g vs tt te xs [] ρ R := by
  have key : ∀ (n : Nat) (acc : List D) (ρ : S), n ≤ xs.length → I n acc ρ → lcGo g vs tt te (xs.drop n) acc ρ R := by
    intro n
    generalize hm : xs.length - n = m
    induction m generalizing n with
    | zero =>
      intro acc ρ hn hi
      have e : n = xs.length := by omega
      subst e
      rw [List.drop_length]
      exact hR acc ρ hi
    | succ m ih =>
      intro acc ρ hn hi
      have hlt : n < xs.length := by omega
      rw [List.drop_eq_getElem_cons hlt]
      exact h n xs[n] acc ρ (fun acc' ρ' => lcGo g vs tt te (xs.drop (n + 1)) acc' ρ' R) (by simp [hlt]) hi fun acc' ρ' hi' => ih (n + 1) (by omega) acc' ρ' hlt hi'
  exact key 0 [] ρ (Nat.zero_le _) h0
/-- nothing changes but the new list -/
theorem lc_pure (f : D → D) (p : D → Bool) (h : ∀ x ∈ xs, ∀ (acc : List D) (Kc : List D → S → Prop), acc.length < sizeLine → Kc (if p x = true then acc ++ [f x] else acc) ρ → lcStep g vs tt te x acc ρ Kc)
    (hl : xs.length ≤ sizeLine) (hR : R (.l ((xs.filter p).map f)) ρ) : lcGo g vs tt te xs [] ρ R := by
  refine lcg_inv (fun i acc ρ' => ρ' = ρ ∧ acc = ((xs.take i).filter p).map f) ⟨rfl, by simp⟩ (fun i x acc ρ' Kc hx ⟨e, ea⟩ hK => ?_) fun acc ρ' ⟨e, ea⟩ => ?_
  · subst e
    have hi := (List.getElem?_eq_some_iff.mp hx).1
    have hxe := (List.getElem?_eq_some_iff.mp hx).2
    refine h x (List.mem_of_getElem? hx) acc Kc ?_ ?_
    · rw [ea, List.length_map]
      have := List.length_filter_le p (xs.take i)
      rw [List.length_take] at this
      omega
    · refine hK _ _ ⟨rfl, ?_⟩
      rw [List.take_add_one, hx, ea]
      simp only [Option.toList_some, List.filter_append, List.map_append]
      by_cases hp : p x = true
      · rw [if_pos hp, List.filter_cons_of_pos hp]; rfl
      · rw [if_neg hp, List.filter_cons_of_neg hp]; simp
  · subst e
    rw [List.take_length] at ea
    rw [ea]; exact hR
theorem lcg_map (f : D → D) (h : ∀ x ∈ xs, ∀ (acc : List D) (Kc : List D → S → Prop), acc.length < sizeLine → Kc (acc ++ [f x]) ρ → lcStep g vs tt te x acc ρ Kc) (hl : xs.length ≤ sizeLine) (hR : R (.l (xs.map f)) ρ) : lcGo g vs tt te xs [] ρ R := by
  refine lc_pure f (fun _ => true) (fun x hx acc Kc hz hK => h x hx acc Kc hz (by simpa using hK)) hl ?_
  have e : xs.filter (fun _ => true) = xs := List.filter_eq_self.mpr (by simp)
  rw [e]; exact hR
end
section
variable {g : WG} {b : WS} {ρ : S} {c : C} {xs : List D}
theorem for_inv (I : Nat → S → Prop) (h0 : I 0 ρ) (h : ∀ i x ρ (Kn : S → Prop), xs[i]? = some x → I i ρ → (∀ ρ', I (i + 1) ρ' → Kn ρ') → ∃ ρ', g x ρ = some ρ' ∧ b ρ' { nx := Kn, ct := Kn, rt := c.rt, bk := c.nx })
    (hn : ∀ ρ, I xs.length ρ → c.nx ρ) : forGo g b xs ρ c := by
  have key : ∀ (n : Nat) (ρ : S), n ≤ xs.length → I n ρ → forGo g b (xs.drop n) ρ c := by
    intro n
    generalize hm : xs.length - n = m
    induction m generalizing n with
    | zero =>
      intro ρ hn' hi
      have e : n = xs.length := by omega
      subst e
      rw [List.drop_length]
      exact hn ρ hi
    | succ m ih =>
      intro ρ hn' hi
      have hlt : n < xs.length := by omega
      rw [List.drop_eq_getElem_cons hlt]
      exact h n xs[n] ρ (fun ρ' => forGo g b (xs.drop (n + 1)) ρ' c) (by simp [hlt]) hi fun ρ' hi' => ih (n + 1) (by omega) ρ' hlt hi'
  exact key 0 ρ (Nat.zero_le _) h0
end
theorem isDL_mem : ∀ {xs : List D}, D.isDL xs = true → ∀ d ∈ xs, d.isD = true
  | x :: xs, h, d, hd => by
    simp only [D.isDL, Bool.and_eq_true] at h
    rcases List.mem_cons.mp hd with rfl | hd
    · exact h.1
    · exact isDL_mem h.2 d hd
theorem rngL_get {lo : Int} {n i : Nat} {x : D} (h : (rngL lo n)[i]? = some x) : i < n ∧ x = .int (lo + i) := by
  unfold rngL at h
  rw [List.getElem?_map] at h
  by_cases hi : i < n
  · rw [List.getElem?_range hi] at h
    exact ⟨hi, (Option.some.inj h).symm⟩
  · rw [List.getElem?_eq_none (by simp; omega)] at h; cases h
theorem rngL_len {lo : Int} {n : Nat} : (rngL lo n).length = n := by simp [rngL]
theorem zat0 {α : Type} {x : α} {xs : List α} : atI (x :: xs) 0 = some x := by
  unfold atI ixN
  rw [if_pos (by decide), if_pos (by simp)]; rfl
theorem zat1 {α : Type} {x y : α} {xs : List α} : atI (x :: y :: xs) 1 = some y := by
  unfold atI ixN
  rw [if_pos (by decide), if_pos (by simp; omega)]; rfl
theorem zat2 {α : Type} {x y z : α} {xs : List α} : atI (x :: y :: z :: xs) 2 = some z := by
  unfold atI ixN
  rw [if_pos (by decide), if_pos (by simp; omega)]; rfl
theorem zat3 {α : Type} {x y z u : α} {xs : List α} : atI (x :: y :: z :: u :: xs) 3 = some u := by
  unfold atI ixN
  rw [if_pos (by decide), if_pos (by simp; omega)]; rfl
theorem atI_ok {α : Type} {xs : List α} {i : Int} (h0 : 0 ≤ i) (h1 : i < xs.length) : ∃ x, atI xs i = some x ∧ x ∈ xs ∧ xs[i.toNat]? = some x := by
  have hi : i.toNat < xs.length := by omega
  refine ⟨xs[i.toNat], ?_, List.getElem_mem hi, by simp [hi]⟩
  unfold atI ixN
  rw [if_pos h0, if_pos h1]
  simp [hi]
/-! ### texts -/
theorem zm_split {a b : Str} {R : Res → Prop} : Mth.fn .split [.str a, .str b] R = (((b.length == 0) = false ∧ a.length + 2 ≤ sizeLine) ∧ R (.l ((Txt.split a b).map .str))) := rfl
theorem zm_words {a : Str} {R : Res → Prop} : Mth.fn .words [.str a] R = (a.length + 2 ≤ sizeLine ∧ R (.l ((Txt.words a).map .str))) := rfl
theorem zm_join_l {a : Str} {ds : List D} {R : Res → Prop} : Mth.fn .join [.str a, .lst ds] R = joinOk a ds R := rfl
theorem zm_join_t {a : Str} {ds : List D} {R : Res → Prop} : Mth.fn .join [.str a, .tup ds] R = joinOk a ds R := rfl
theorem zm_upper {a : Str} {R : Res → Prop} : Mth.fn .upper [.str a] R = (a.length ≤ 5592405 ∧ R (.d (.str (Txt.upper a)))) := rfl
theorem zm_lower {a : Str} {R : Res → Prop} : Mth.fn .lower [.str a] R = (a.length ≤ 5592405 ∧ R (.d (.str (Txt.lower a)))) := rfl
/-- signs below 128, at most n of them -/
def Low (n : Nat) (x : Str) : Prop := (∀ c ∈ x.cps.toList, c < 128) ∧ x.length ≤ n
theorem Low.add {n m : Nat} {x y : Str} (h : Low n x) (g : Low m y) : Low (n + m) (x ++ y) := by
  have e : (x ++ y).cps = x.cps ++ y.cps := rfl
  refine ⟨fun c hc => ?_, ?_⟩
  · rw [e, Array.toList_append] at hc
    rcases List.mem_append.mp hc with z | z
    · exact h.1 c z
    · exact g.1 c z
  · show (x ++ y).cps.size ≤ _
    rw [e, Array.size_append]
    have h2 : x.cps.size ≤ n := h.2
    have g2 : y.cps.size ≤ m := g.2
    omega
theorem Low.mono {n m : Nat} {x : Str} (h : Low n x) (e : n ≤ m) : Low m x := ⟨h.1, Nat.le_trans h.2 e⟩
theorem rep_mem (y : Array Nat) : ∀ (n : Nat) (acc : Array Nat) (c : Nat), c ∈ (List.foldl (fun x1 x2 => x1 ++ x2) acc (List.replicate n y)).toList → c ∈ acc.toList ∨ c ∈ y.toList
  | 0, acc, c, h => .inl h
  | n + 1, acc, c, h => by
    rw [List.replicate_succ, List.foldl_cons] at h
    rcases rep_mem y n _ c h with z | z
    · rw [Array.toList_append] at z
      exact List.mem_append.mp z
    · exact .inr z
theorem Low.rep {n : Nat} {x : Str} (h : Low n x) (k : Int) : Low (n * k.toNat + n) (strRep x k) := by
  unfold strRep
  split
  · refine ⟨fun c hc => ?_, Nat.zero_le _⟩
    have hc : c ∈ ([] : List Nat) := hc
    cases hc
  · split
    · exact h.mono (by omega)
    · refine ⟨fun c hc => ?_, ?_⟩
      · rcases rep_mem _ _ _ c hc with z | z
        · cases z
        · exact h.1 c z
      · show (List.foldl (fun x1 x2 => x1 ++ x2) #[] (List.replicate k.toNat x.cps)).size ≤ _
        rw [rep_size]
        have h2 : x.cps.size ≤ n := h.2
        have : k.toNat * x.cps.size ≤ k.toNat * n := Nat.mul_le_mul_left _ h2
        have e0 : (#[] : Array Nat).size = 0 := rfl
        rw [e0, Nat.mul_comm n]
        omega
theorem Low.cut {n : Nat} {x : Str} (h : Low n x) (lo hi : Option Int) : Low n (cutS x lo hi) := by
  unfold cutS
  refine ⟨fun c hc => h.1 c ?_, ?_⟩
  · have hc : c ∈ (((x.cps.toList.drop (HT.sIx x.length 0 lo)).take (HT.sIx x.length x.length hi - HT.sIx x.length 0 lo)).toArray).toList := hc
    rw [List.toList_toArray] at hc
    exact List.mem_of_mem_drop (List.mem_of_mem_take hc)
  · show (((x.cps.toList.drop (HT.sIx x.length 0 lo)).take (HT.sIx x.length x.length hi - HT.sIx x.length 0 lo)).toArray).size ≤ _
    rw [List.size_toArray, List.length_take, List.length_drop]
    have h2 : x.cps.size ≤ n := h.2
    have e : x.cps.toList.length = x.cps.size := Array.length_toList
    omega
theorem Low.one {c : Nat} (h : c < 128) : Low 1 ⟨#[c]⟩ := ⟨fun d hd => by
  have : d = c := by simpa using hd
  rw [this]; exact h, Nat.le_refl _⟩
end Pz

set_option maxRecDepth 100000
set_option maxHeartbeats 4000000
namespace Q
open PySem L2 Pz
def top (i : Nat) : Stmt := PySem.Challenge.pw_doorbeams_k09_stands_of_any_value.main.body.getD i (.Pass ⟨0, 0, 0, 0⟩)
abbrev s_is_count : Stmt := top 1
def N_is_count : List Str := ["thing"]
theorem sc_is_count : FnScope N_is_count ["thing"] (defScope s_is_count) := ⟨by decide +kernel, by decide +kernel, by decide +kernel, by decide +kernel, by decide +kernel, by decide +kernel, by decide +kernel⟩
def b_is_count : List IS := [.ret (.and [.isi .int (.var 0), .not (.isi .bool (.var 0)), .cmp .GtE (.var 0) (.int 0)])]
theorem ck_is_count : chkSs ⟨N_is_count, defScope s_is_count, fun _ => true⟩ b_is_count (defBody s_is_count) = true := by decide +kernel
abbrev s_is_stand : Stmt := top 3
def N_is_stand : List Str := ["building", "thing", "rooms", "doors", "number"]
theorem sc_is_stand : FnScope N_is_stand ["building", "thing"] (defScope s_is_stand) := ⟨by decide +kernel, by decide +kernel, by decide +kernel, by decide +kernel, by decide +kernel, by decide +kernel, by decide +kernel⟩
def b_is_stand : List IS := [.unp (.tup [.nm 2, .nm 3]) (.var 0), .ret (.and [.isi .tuple (.var 1), .cmp .Eq (.fn .len [.var 1]) (.fn .len [.var 2]), .fn .all [.lc (.call "is_count" [.var 4]) (.nm 4) 0 [.var 1] [] [("number", 4)]]])]
theorem ck_is_stand : chkSs ⟨N_is_stand, defScope s_is_stand, fun _ => true⟩ b_is_stand (defBody s_is_stand) = true := by decide +kernel
abbrev s_law_deck : Stmt := top 5
def N_law_deck : List Str := ["_law_script", "_law_cells", "_law_mixed", "_law_cell"]
theorem sc_law_deck : FnScope ["_law_script", "_law_cells", "_law_mixed", "_law_cell"] ["_law_script"] (defScope s_law_deck) := ⟨by decide +kernel, by decide +kernel, by decide +kernel, by decide +kernel, by decide +kernel, by decide +kernel, by decide +kernel⟩
theorem ck_law_deck : chkDeck ⟨["_law_script", "_law_cells", "_law_mixed", "_law_cell"], defScope s_law_deck, fun _ => true⟩ (defBody s_law_deck) = true := by decide +kernel
abbrev s_law_draw : Stmt := top 6
def N_law_draw : List Str := ["_law_deck_here", "_law_many", "_law_cell", "_law_number"]
theorem sc_law_draw : FnScope ["_law_deck_here", "_law_many", "_law_cell", "_law_number"] ["_law_deck_here", "_law_many"] (defScope s_law_draw) := ⟨by decide +kernel, by decide +kernel, by decide +kernel, by decide +kernel, by decide +kernel, by decide +kernel, by decide +kernel⟩
theorem ck_law_draw : chkDraw ⟨["_law_deck_here", "_law_many", "_law_cell", "_law_number"], defScope s_law_draw, fun _ => true⟩ (defBody s_law_draw) = true := by decide +kernel
abbrev s_law_pick : Stmt := top 7
def N_law_pick : List Str := ["_law_deck_here", "_law_some"]
theorem sc_law_pick : FnScope N_law_pick ["_law_deck_here", "_law_some"] (defScope s_law_pick) := ⟨by decide +kernel, by decide +kernel, by decide +kernel, by decide +kernel, by decide +kernel, by decide +kernel, by decide +kernel⟩
def b_law_pick : List IS := [.ret (.ix (.var 1) (.call "_law_draw" [.var 0, .fn .len [.var 1]]))]
theorem ck_law_pick : chkSs ⟨N_law_pick, defScope s_law_pick, fun _ => true⟩ b_law_pick (defBody s_law_pick) = true := by decide +kernel
abbrev s_law_labels : Stmt := top 8
def N_law_labels : List Str := ["_law_deck_here", "_law_many", "_law_way", "_law_first", "_law_letters", "_law_words", "_law_found", "_law_k", "_law_letter"]
theorem sc_law_labels : FnScope N_law_labels ["_law_deck_here", "_law_many"] (defScope s_law_labels) := ⟨by decide +kernel, by decide +kernel, by decide +kernel, by decide +kernel, by decide +kernel, by decide +kernel, by decide +kernel⟩
def b_law_labels : List IS := [.par [2, 3] [.call "_law_draw" [.var 0, .int 3], .call "_law_draw" [.var 0, .int 26]], .set 4 (.str "abcdefghijklmnopqrstuvwxyz"), .set 5 (.mth .split (.str "outside any as with to start ask door beam hall went none all room open shut parted same") [.str " "]), .set 6 (.lst []), .for_ (.nm 7) 1 [.var 1] [.set 8 (.ix (.var 4) (.bin .Mod (.bin .Add (.var 3) (.bin .Mult (.int 7) (.var 7))) (.int 26))), .drop (.app 6 (.ix (.lst [.var 8, .bin .Add (.sl (.str "ward") none (some (.bin .Mod (.var 7) (.int 4)))) (.bin .Mult (.var 8) (.int 2)), .ix (.var 5) (.bin .Mod (.bin .Add (.var 3) (.var 7)) (.int 18))]) (.var 2)))], .ret (.var 6)]
theorem ck_law_labels : chkSs ⟨N_law_labels, defScope s_law_labels, fun _ => true⟩ b_law_labels (defBody s_law_labels) = true := by decide +kernel
abbrev s_law_house : Stmt := top 9
def N_law_house : List Str := ["_law_deck_here", "_law_rooms_at_most", "_law_doors_at_most", "_law_some", "_law_found", "_law_label"]
theorem sc_law_house : FnScope N_law_house ["_law_deck_here", "_law_rooms_at_most", "_law_doors_at_most"] (defScope s_law_house) := ⟨by decide +kernel, by decide +kernel, by decide +kernel, by decide +kernel, by decide +kernel, by decide +kernel, by decide +kernel⟩
def b_law_house : List IS := [.set 3 (.fn .sorted [.call "_law_labels" [.var 0, .bin .Add (.int 1) (.call "_law_draw" [.var 0, .var 1])]]), .set 4 (.lst []), .for_ (.nm 5) 0 [.fn .sorted [.call "_law_labels" [.var 0, .call "_law_draw" [.var 0, .bin .Add (.var 2) (.int 1)]]]] [.drop (.app 4 (.bin .Add (.tup [.var 5]) (.call "_law_ends" [.var 0, .var 3])))], .ret (.tup [.fn .tuple [.var 3], .fn .tuple [.var 4]])]
theorem ck_law_house : chkSs ⟨N_law_house, defScope s_law_house, fun _ => true⟩ b_law_house (defBody s_law_house) = true := by decide +kernel
abbrev s_law_ends : Stmt := top 10
def N_law_ends : List Str := ["_law_deck_here", "_law_some", "_law_one", "_law_other"]
theorem sc_law_ends : FnScope N_law_ends ["_law_deck_here", "_law_some"] (defScope s_law_ends) := ⟨by decide +kernel, by decide +kernel, by decide +kernel, by decide +kernel, by decide +kernel, by decide +kernel, by decide +kernel⟩
def b_law_ends : List IS := [.par [2, 3] [.call "_law_draw" [.var 0, .fn .len [.var 1]], .call "_law_draw" [.var 0, .fn .len [.var 1]]], .ite (.cmp .Eq (.var 2) (.var 3)) [.ret (.tup [.ix (.var 1) (.var 2), .non])] [], .ret (.tup [.ix (.var 1) (.fn .min [.var 2, .var 3]), .ix (.var 1) (.fn .max [.var 2, .var 3])])]
theorem ck_law_ends : chkSs ⟨N_law_ends, defScope s_law_ends, fun _ => true⟩ b_law_ends (defBody s_law_ends) = true := by decide +kernel
abbrev s_law_spot : Stmt := top 11
def N_law_spot : List Str := ["_law_deck_here", "_law_house_here", "_law_some", "_law_name"]
theorem sc_law_spot : FnScope N_law_spot ["_law_deck_here", "_law_house_here"] (defScope s_law_spot) := ⟨by decide +kernel, by decide +kernel, by decide +kernel, by decide +kernel, by decide +kernel, by decide +kernel, by decide +kernel⟩
def b_law_spot : List IS := [.set 2 (.lst [.int 0, .int 0, .int 1, .int 2, .int 3, .call "_law_draw" [.var 0, .int 100], .bin .Pow (.int 10) (.int 39)]), .ret (.fn .tuple [.lc (.call "_law_pick" [.var 0, .var 2]) (.nm 3) 0 [.ix (.var 1) (.int 0)] [] [("_law_name", 3)]])]
theorem ck_law_spot : chkSs ⟨N_law_spot, defScope s_law_spot, fun _ => true⟩ b_law_spot (defBody s_law_spot) = true := by decide +kernel
abbrev s_law_changed : Stmt := top 12
def N_law_changed : List Str := ["_law_deck_here", "_law_it", "_law_at", "_law_way", "_law_more"]
theorem sc_law_changed : FnScope N_law_changed ["_law_deck_here", "_law_it"] (defScope s_law_changed) := ⟨by decide +kernel, by decide +kernel, by decide +kernel, by decide +kernel, by decide +kernel, by decide +kernel, by decide +kernel⟩
def b_law_changed : List IS := [.par [2, 3] [.call "_law_draw" [.var 0, .bin .Add (.fn .len [.var 1]) (.int 1)], .call "_law_draw" [.var 0, .int 8]], .ite (.cmp .Eq (.var 3) (.int 0)) [.ret (.bin .Add (.sl (.var 1) none (some (.var 2))) (.sl (.var 1) (some (.bin .Add (.var 2) (.int 1))) none))] [], .ite (.cmp .Eq (.var 3) (.int 1)) [.ret (.bin .Add (.bin .Add (.sl (.var 1) none (some (.var 2))) (.tup [.call "_law_draw" [.var 0, .int 3]])) (.sl (.var 1) (some (.var 2)) none))] [], .ite (.cmp .Eq (.var 3) (.int 2)) [.ret (.fn .list [.var 1])] [], .ite (.cmp .Eq (.var 3) (.int 3)) [.ret (.bin .Add (.var 1) (.var 1))] [], .set 4 (.lst [.neg (.int 1), .int 0, .int 1, .bl true, .bl false, .non, .str "0", .str "", .tup [], .tup [.int 0], .lst [.int 0], .dct [], .dct [.int 0, .int 0], .bin .Pow (.int 10) (.int 39), .bin .Sub (.int 1) (.bin .Pow (.int 10) (.int 40))]), .ret (.bin .Add (.bin .Add (.sl (.var 1) none (some (.var 2))) (.tup [.call "_law_pick" [.var 0, .var 4]])) (.sl (.var 1) (some (.bin .Add (.var 2) (.int 1))) none))]
theorem ck_law_changed : chkSs ⟨N_law_changed, defScope s_law_changed, fun _ => true⟩ b_law_changed (defBody s_law_changed) = true := by decide +kernel
abbrev s_law_is_right : Stmt := top 13
def N_law_is_right : List Str := ["_law_house_here", "_law_it", "_law_numbers_here", "_law_one"]
theorem sc_law_is_right : FnScope N_law_is_right ["_law_house_here", "_law_it"] (defScope s_law_is_right) := ⟨by decide +kernel, by decide +kernel, by decide +kernel, by decide +kernel, by decide +kernel, by decide +kernel, by decide +kernel⟩
def b_law_is_right : List IS := [.ite (.or [.not (.isi .tuple (.var 1)), .cmp .NotEq (.fn .len [.var 1]) (.fn .len [.ix (.var 0) (.int 0)])]) [.ret (.bl false)] [], .set 2 (.lc (.var 3) (.nm 3) 0 [.var 1] [.and [.isi .int (.var 3), .not (.isi .bool (.var 3)), .cmp .GtE (.var 3) (.int 0)]] [("_law_one", 3)]), .ret (.cmp .Eq (.fn .len [.var 2]) (.fn .len [.var 1]))]
theorem ck_law_is_right : chkSs ⟨N_law_is_right, defScope s_law_is_right, fun _ => true⟩ b_law_is_right (defBody s_law_is_right) = true := by decide +kernel
abbrev s_law : Stmt := top 14
def N_law : List Str := ["_law_script", "_law_deck_here", "_law_turn", "_law_house_here", "_law_some", "_law_again", "_law_kept", "_law_it", "_law_due"]
theorem sc_law : FnScope N_law ["_law_script"] (defScope s_law) := ⟨by decide +kernel, by decide +kernel, by decide +kernel, by decide +kernel, by decide +kernel, by decide +kernel, by decide +kernel⟩
def b_law : List IS := [.for_ (.nm 2) 1 [.int 10] [.set 3 (.call "_law_house" [.var 1, .int 7, .int 12]), .set 4 (.lst [.non, .bl true, .int 0, .int 1, .str "", .str "0", .tup [], .lst [], .dct [], .tup [.tup []], .tup [.int 0], .lst [.int 0], .tup [.non], .var 3, .ix (.var 3) (.int 0), .tup [.bl true], .tup [.int 0, .int 0]]), .for_ (.nm 5) 1 [.int 12] [.set 7 (.call "_law_spot" [.var 1, .var 3]), .drop (.app 4 (.var 7)), .set 7 (.call "_law_changed" [.var 1, .var 7]), .drop (.app 4 (.ite (.and [.isi .tuple (.var 7), .cmp .Eq (.call "_law_draw" [.var 1, .int 3]) (.int 0)]) (.call "_law_changed" [.var 1, .var 7]) (.var 7)))], .set 6 (.fn .repr [.lst [.var 3, .var 4]]), .for_ (.nm 7) 0 [.var 4] [.set 8 (.fn .repr [.call "_law_is_right" [.var 3, .var 7]]), .ite (.or [.cmp .NotEq (.fn .repr [.call "is_stand" [.var 3, .var 7]]) (.var 8), .cmp .NotEq (.fn .repr [.kcall "is_stand" ["thing", "building"] [.var 7, .var 3]]) (.var 8)]) [.ret (.bl false)] []], .ite (.cmp .NotEq (.fn .repr [.lst [.var 3, .var 4]]) (.var 6)) [.ret (.bl false)] []], .ret (.bl true)]
theorem ck_law : (match chkMk ⟨N_law, defScope s_law, fun _ => true⟩ "_law_deck" (defBody s_law) with
    | some rest => chkSs ⟨N_law, defScope s_law, fun _ => true⟩ b_law rest
    | none => false) = true := by decide +kernel
end Q

set_option maxRecDepth 100000
set_option maxHeartbeats 4000000
namespace Q
open PySem L2 Pz
def isCount : D → Bool
  | .int i => decide (0 ≤ i)
  | _ => false
def pfCount : List D → (Res → Prop) → Prop
  | [d], R => d.isD = true ∧ R (.d (.bl (isCount d)))
  | _, _ => False
theorem k_count (F : Fs) : Keeps F N_is_count b_is_count (.pu pfCount) := by
  intro ds R h
  match ds, h with
  | [d], ⟨h1, h2⟩ =>
    simp only [N_is_count, b_is_count, IS.sms, IS.sm, IE.sm, IE.sms, IE.smo, pl, List.map_cons, List.map_nil, andW, orW, andT, orT, wisW, srcW, prs, ifsW, wNext, wSeq, wBrk, wCnt, wDrop, wRet, wIfS, wSet, wUnp, wPar, parGo, wFor, wc, w1, w2, waNil, waCons, wN, wTup, wLst, wtv, wtNot, wtAnd, wtOr, Pz.wNot, wAnd, wOr, wIf, wChain, wtCmp, wtChain, wSl, woNo, woE, wIsi, wMth, wApp, wExt, wPop, wDct0, wDct, dspGo, wLc, wiRng1, wiRng2, wiEnum, wtYes, S.mv, fBin, fCmp, retC, ent, Fn.g, zfz_d, zfz_l, zfz_m, zfz_p, zdatO, zdat_d, zdat_l, zdat_m, zlook_d, zlook_p, zofz_d, zofz_p, zfzO, zfz, zconsO, zlooks_nil, zlooks_cons, zfzs_nil, zfzs_cons, zwvO_d, zwvO_l, zwvO_m, zwv, zset, zput_d, zput_l, zput_m, zputO, zput_p, zpush_d, zpush_l, zpush_m, zpushO, zpush_p, zmvs_nil, zmvs_cons, zout_d, zout_l, zout_m, zoutO_d, zoutO_l, zoutO_m, zout_p, ztru_non, ztru_bl, ztru_int, ztru_str, ztru_lst, ztru_tup, ztru_dic, zadd_i, zadd_s, zadd_l, zadd_t, zsub, zmul_i, zmul_l, zmul_s, zmul_t, zdiv, zmod, zpow, zneg, zlt_i, zle_i, zgt_i, zge_i, zlt_s, zle_s, zgt_s, zge_s, zeq_i, zne_i, zeq_s, zne_s, zis, zis_b, zix_l, zix_t, zix_s, zsl_l, zsl_t, zsl_s, zlen_s, zlen_l, zlen_t, zlen_d, ztup_l, ztup_t, zlist_l, zlist_t, zmax, zmin, zall, zany, zsum, zsorted, zrepr, zset_nm, zset_tt, zset_tl, zsets_nil, zsets_cons, zseqK_l, zseqK_t, zseqK_s, zseq, zcall_pu, zdkK, zcall_dk, zuns_nil, zuns_cons, zbkO_d, zbkO_l, zbkO_m, zbkO_n, zbkO_0, zback_nil, zback_cons, zat0, zat1, zat2, zat3, zm_split, zm_words, zm_join_l, zm_join_t, zm_upper, zm_lower, D.tyS, Mth.ty, List.getElem?_cons_zero, List.getElem?_cons_succ, List.set_cons_zero, List.set_cons_succ, List.dropLast_cons_cons, List.dropLast_singleton, List.getLast?_cons_cons, List.getLast?_singleton, List.cons_append, List.nil_append, List.append_nil, List.reverse_cons, List.reverse_nil, Option.getD_some, Option.getD_none, Option.some.injEq, Option.bind_some, exists_eq_left', exists_eq_left, exists_eq_right, exists_and_left, true_and, and_true, if_true, if_false, reduceCtorEq, reduceIte, Bool.false_eq_true, Bool.false_xor, Bool.true_xor, List.replicate_succ, List.replicate_zero, List.length_cons, List.length_nil, Nat.zero_add, Nat.reduceAdd, Nat.reduceSub, O.d.injEq, D.int.injEq, Res.d.injEq, B.l.injEq, B.d.injEq, D.bl.injEq, D.str.injEq, D.lst.injEq, D.tup.injEq, Nat.zero_le]
    refine ⟨h1, ?_⟩
    cases d with
    | int i => simp only [D.isTy, IS.sms, IS.sm, IE.sm, IE.sms, IE.smo, pl, List.map_cons, List.map_nil, andW, orW, andT, orT, wisW, srcW, prs, ifsW, wNext, wSeq, wBrk, wCnt, wDrop, wRet, wIfS, wSet, wUnp, wPar, parGo, wFor, wc, w1, w2, waNil, waCons, wN, wTup, wLst, wtv, wtNot, wtAnd, wtOr, Pz.wNot, wAnd, wOr, wIf, wChain, wtCmp, wtChain, wSl, woNo, woE, wIsi, wMth, wApp, wExt, wPop, wDct0, wDct, dspGo, wLc, wiRng1, wiRng2, wiEnum, wtYes, S.mv, fBin, fCmp, retC, ent, Fn.g, zfz_d, zfz_l, zfz_m, zfz_p, zdatO, zdat_d, zdat_l, zdat_m, zlook_d, zlook_p, zofz_d, zofz_p, zfzO, zfz, zconsO, zlooks_nil, zlooks_cons, zfzs_nil, zfzs_cons, zwvO_d, zwvO_l, zwvO_m, zwv, zset, zput_d, zput_l, zput_m, zputO, zput_p, zpush_d, zpush_l, zpush_m, zpushO, zpush_p, zmvs_nil, zmvs_cons, zout_d, zout_l, zout_m, zoutO_d, zoutO_l, zoutO_m, zout_p, ztru_non, ztru_bl, ztru_int, ztru_str, ztru_lst, ztru_tup, ztru_dic, zadd_i, zadd_s, zadd_l, zadd_t, zsub, zmul_i, zmul_l, zmul_s, zmul_t, zdiv, zmod, zpow, zneg, zlt_i, zle_i, zgt_i, zge_i, zlt_s, zle_s, zgt_s, zge_s, zeq_i, zne_i, zeq_s, zne_s, zis, zis_b, zix_l, zix_t, zix_s, zsl_l, zsl_t, zsl_s, zlen_s, zlen_l, zlen_t, zlen_d, ztup_l, ztup_t, zlist_l, zlist_t, zmax, zmin, zall, zany, zsum, zsorted, zrepr, zset_nm, zset_tt, zset_tl, zsets_nil, zsets_cons, zseqK_l, zseqK_t, zseqK_s, zseq, zcall_pu, zdkK, zcall_dk, zuns_nil, zuns_cons, zbkO_d, zbkO_l, zbkO_m, zbkO_n, zbkO_0, zback_nil, zback_cons, zat0, zat1, zat2, zat3, zm_split, zm_words, zm_join_l, zm_join_t, zm_upper, zm_lower, D.tyS, Mth.ty, List.getElem?_cons_zero, List.getElem?_cons_succ, List.set_cons_zero, List.set_cons_succ, List.dropLast_cons_cons, List.dropLast_singleton, List.getLast?_cons_cons, List.getLast?_singleton, List.cons_append, List.nil_append, List.append_nil, List.reverse_cons, List.reverse_nil, Option.getD_some, Option.getD_none, Option.some.injEq, Option.bind_some, exists_eq_left', exists_eq_left, exists_eq_right, exists_and_left, true_and, and_true, if_true, if_false, reduceCtorEq, reduceIte, Bool.false_eq_true, Bool.false_xor, Bool.true_xor, List.replicate_succ, List.replicate_zero, List.length_cons, List.length_nil, Nat.zero_add, Nat.reduceAdd, Nat.reduceSub, O.d.injEq, D.int.injEq, Res.d.injEq, B.l.injEq, B.d.injEq, D.bl.injEq, D.str.injEq, D.lst.injEq, D.tup.injEq, Nat.zero_le, Bool.not_false, isCount] at h1 h2 ⊢; exact ⟨h1, h2⟩
    | bl b => simp only [D.isTy, IS.sms, IS.sm, IE.sm, IE.sms, IE.smo, pl, List.map_cons, List.map_nil, andW, orW, andT, orT, wisW, srcW, prs, ifsW, wNext, wSeq, wBrk, wCnt, wDrop, wRet, wIfS, wSet, wUnp, wPar, parGo, wFor, wc, w1, w2, waNil, waCons, wN, wTup, wLst, wtv, wtNot, wtAnd, wtOr, Pz.wNot, wAnd, wOr, wIf, wChain, wtCmp, wtChain, wSl, woNo, woE, wIsi, wMth, wApp, wExt, wPop, wDct0, wDct, dspGo, wLc, wiRng1, wiRng2, wiEnum, wtYes, S.mv, fBin, fCmp, retC, ent, Fn.g, zfz_d, zfz_l, zfz_m, zfz_p, zdatO, zdat_d, zdat_l, zdat_m, zlook_d, zlook_p, zofz_d, zofz_p, zfzO, zfz, zconsO, zlooks_nil, zlooks_cons, zfzs_nil, zfzs_cons, zwvO_d, zwvO_l, zwvO_m, zwv, zset, zput_d, zput_l, zput_m, zputO, zput_p, zpush_d, zpush_l, zpush_m, zpushO, zpush_p, zmvs_nil, zmvs_cons, zout_d, zout_l, zout_m, zoutO_d, zoutO_l, zoutO_m, zout_p, ztru_non, ztru_bl, ztru_int, ztru_str, ztru_lst, ztru_tup, ztru_dic, zadd_i, zadd_s, zadd_l, zadd_t, zsub, zmul_i, zmul_l, zmul_s, zmul_t, zdiv, zmod, zpow, zneg, zlt_i, zle_i, zgt_i, zge_i, zlt_s, zle_s, zgt_s, zge_s, zeq_i, zne_i, zeq_s, zne_s, zis, zis_b, zix_l, zix_t, zix_s, zsl_l, zsl_t, zsl_s, zlen_s, zlen_l, zlen_t, zlen_d, ztup_l, ztup_t, zlist_l, zlist_t, zmax, zmin, zall, zany, zsum, zsorted, zrepr, zset_nm, zset_tt, zset_tl, zsets_nil, zsets_cons, zseqK_l, zseqK_t, zseqK_s, zseq, zcall_pu, zdkK, zcall_dk, zuns_nil, zuns_cons, zbkO_d, zbkO_l, zbkO_m, zbkO_n, zbkO_0, zback_nil, zback_cons, zat0, zat1, zat2, zat3, zm_split, zm_words, zm_join_l, zm_join_t, zm_upper, zm_lower, D.tyS, Mth.ty, List.getElem?_cons_zero, List.getElem?_cons_succ, List.set_cons_zero, List.set_cons_succ, List.dropLast_cons_cons, List.dropLast_singleton, List.getLast?_cons_cons, List.getLast?_singleton, List.cons_append, List.nil_append, List.append_nil, List.reverse_cons, List.reverse_nil, Option.getD_some, Option.getD_none, Option.some.injEq, Option.bind_some, exists_eq_left', exists_eq_left, exists_eq_right, exists_and_left, true_and, and_true, if_true, if_false, reduceCtorEq, reduceIte, Bool.false_eq_true, Bool.false_xor, Bool.true_xor, List.replicate_succ, List.replicate_zero, List.length_cons, List.length_nil, Nat.zero_add, Nat.reduceAdd, Nat.reduceSub, O.d.injEq, D.int.injEq, Res.d.injEq, B.l.injEq, B.d.injEq, D.bl.injEq, D.str.injEq, D.lst.injEq, D.tup.injEq, Nat.zero_le, Bool.not_true, isCount] at h1 h2 ⊢; exact ⟨h1, h2⟩
    | _ => exact h2
/-- a stand of n rooms -/
def isStand (n : Nat) : D → Bool
  | .tup xs => decide (xs.length = n) && xs.all isCount
  | _ => false
def shortT (d : D) : Prop := ∀ xs, d = .tup xs → xs.length ≤ 100000
def pfStand : List D → (Res → Prop) → Prop
  | [.tup [.tup rs, ds], t], R => (t.isD = true ∧ shortT t) ∧ R (.d (.bl (isStand rs.length t)))
  | _, _ => False
theorem bls (xs : List D) (f : D → Bool) : xs.map (fun d => D.bl (f d)) = (xs.map f).map D.bl := by simp
theorem k_stand (F : Fs) (hF : F.fn "is_count" = some (.pu pfCount)) : Keeps F N_is_stand b_is_stand (.pu pfStand) := by
  intro ds R h
  match ds, h with
  | [.tup [.tup rs, dd], t], ⟨⟨h1, h3⟩, h2⟩ =>
    simp only [N_is_stand, b_is_stand, IS.sms, IS.sm, IE.sm, IE.sms, IE.smo, pl, List.map_cons, List.map_nil, andW, orW, andT, orT, wisW, srcW, prs, ifsW, wNext, wSeq, wBrk, wCnt, wDrop, wRet, wIfS, wSet, wUnp, wPar, parGo, wFor, wc, w1, w2, waNil, waCons, wN, wTup, wLst, wtv, wtNot, wtAnd, wtOr, Pz.wNot, wAnd, wOr, wIf, wChain, wtCmp, wtChain, wSl, woNo, woE, wIsi, wMth, wApp, wExt, wPop, wDct0, wDct, dspGo, wLc, wiRng1, wiRng2, wiEnum, wtYes, S.mv, fBin, fCmp, retC, ent, Fn.g, zfz_d, zfz_l, zfz_m, zfz_p, zdatO, zdat_d, zdat_l, zdat_m, zlook_d, zlook_p, zofz_d, zofz_p, zfzO, zfz, zconsO, zlooks_nil, zlooks_cons, zfzs_nil, zfzs_cons, zwvO_d, zwvO_l, zwvO_m, zwv, zset, zput_d, zput_l, zput_m, zputO, zput_p, zpush_d, zpush_l, zpush_m, zpushO, zpush_p, zmvs_nil, zmvs_cons, zout_d, zout_l, zout_m, zoutO_d, zoutO_l, zoutO_m, zout_p, ztru_non, ztru_bl, ztru_int, ztru_str, ztru_lst, ztru_tup, ztru_dic, zadd_i, zadd_s, zadd_l, zadd_t, zsub, zmul_i, zmul_l, zmul_s, zmul_t, zdiv, zmod, zpow, zneg, zlt_i, zle_i, zgt_i, zge_i, zlt_s, zle_s, zgt_s, zge_s, zeq_i, zne_i, zeq_s, zne_s, zis, zis_b, zix_l, zix_t, zix_s, zsl_l, zsl_t, zsl_s, zlen_s, zlen_l, zlen_t, zlen_d, ztup_l, ztup_t, zlist_l, zlist_t, zmax, zmin, zall, zany, zsum, zsorted, zrepr, zset_nm, zset_tt, zset_tl, zsets_nil, zsets_cons, zseqK_l, zseqK_t, zseqK_s, zseq, zcall_pu, zdkK, zcall_dk, zuns_nil, zuns_cons, zbkO_d, zbkO_l, zbkO_m, zbkO_n, zbkO_0, zback_nil, zback_cons, zat0, zat1, zat2, zat3, zm_split, zm_words, zm_join_l, zm_join_t, zm_upper, zm_lower, D.tyS, Mth.ty, List.getElem?_cons_zero, List.getElem?_cons_succ, List.set_cons_zero, List.set_cons_succ, List.dropLast_cons_cons, List.dropLast_singleton, List.getLast?_cons_cons, List.getLast?_singleton, List.cons_append, List.nil_append, List.append_nil, List.reverse_cons, List.reverse_nil, Option.getD_some, Option.getD_none, Option.some.injEq, Option.bind_some, exists_eq_left', exists_eq_left, exists_eq_right, exists_and_left, true_and, and_true, if_true, if_false, reduceCtorEq, reduceIte, Bool.false_eq_true, Bool.false_xor, Bool.true_xor, List.replicate_succ, List.replicate_zero, List.length_cons, List.length_nil, Nat.zero_add, Nat.reduceAdd, Nat.reduceSub, O.d.injEq, D.int.injEq, Res.d.injEq, B.l.injEq, B.d.injEq, D.bl.injEq, D.str.injEq, D.lst.injEq, D.tup.injEq, Nat.zero_le, hF]
    refine ⟨h1, ?_⟩
    cases t with
    | tup xs =>
      have hl := h3 xs rfl
      simp only [D.isTy, IS.sms, IS.sm, IE.sm, IE.sms, IE.smo, pl, List.map_cons, List.map_nil, andW, orW, andT, orT, wisW, srcW, prs, ifsW, wNext, wSeq, wBrk, wCnt, wDrop, wRet, wIfS, wSet, wUnp, wPar, parGo, wFor, wc, w1, w2, waNil, waCons, wN, wTup, wLst, wtv, wtNot, wtAnd, wtOr, Pz.wNot, wAnd, wOr, wIf, wChain, wtCmp, wtChain, wSl, woNo, woE, wIsi, wMth, wApp, wExt, wPop, wDct0, wDct, dspGo, wLc, wiRng1, wiRng2, wiEnum, wtYes, S.mv, fBin, fCmp, retC, ent, Fn.g, zfz_d, zfz_l, zfz_m, zfz_p, zdatO, zdat_d, zdat_l, zdat_m, zlook_d, zlook_p, zofz_d, zofz_p, zfzO, zfz, zconsO, zlooks_nil, zlooks_cons, zfzs_nil, zfzs_cons, zwvO_d, zwvO_l, zwvO_m, zwv, zset, zput_d, zput_l, zput_m, zputO, zput_p, zpush_d, zpush_l, zpush_m, zpushO, zpush_p, zmvs_nil, zmvs_cons, zout_d, zout_l, zout_m, zoutO_d, zoutO_l, zoutO_m, zout_p, ztru_non, ztru_bl, ztru_int, ztru_str, ztru_lst, ztru_tup, ztru_dic, zadd_i, zadd_s, zadd_l, zadd_t, zsub, zmul_i, zmul_l, zmul_s, zmul_t, zdiv, zmod, zpow, zneg, zlt_i, zle_i, zgt_i, zge_i, zlt_s, zle_s, zgt_s, zge_s, zeq_i, zne_i, zeq_s, zne_s, zis, zis_b, zix_l, zix_t, zix_s, zsl_l, zsl_t, zsl_s, zlen_s, zlen_l, zlen_t, zlen_d, ztup_l, ztup_t, zlist_l, zlist_t, zmax, zmin, zall, zany, zsum, zsorted, zrepr, zset_nm, zset_tt, zset_tl, zsets_nil, zsets_cons, zseqK_l, zseqK_t, zseqK_s, zseq, zcall_pu, zdkK, zcall_dk, zuns_nil, zuns_cons, zbkO_d, zbkO_l, zbkO_m, zbkO_n, zbkO_0, zback_nil, zback_cons, zat0, zat1, zat2, zat3, zm_split, zm_words, zm_join_l, zm_join_t, zm_upper, zm_lower, D.tyS, Mth.ty, List.getElem?_cons_zero, List.getElem?_cons_succ, List.set_cons_zero, List.set_cons_succ, List.dropLast_cons_cons, List.dropLast_singleton, List.getLast?_cons_cons, List.getLast?_singleton, List.cons_append, List.nil_append, List.append_nil, List.reverse_cons, List.reverse_nil, Option.getD_some, Option.getD_none, Option.some.injEq, Option.bind_some, exists_eq_left', exists_eq_left, exists_eq_right, exists_and_left, true_and, and_true, if_true, if_false, reduceCtorEq, reduceIte, Bool.false_eq_true, Bool.false_xor, Bool.true_xor, List.replicate_succ, List.replicate_zero, List.length_cons, List.length_nil, Nat.zero_add, Nat.reduceAdd, Nat.reduceSub, O.d.injEq, D.int.injEq, Res.d.injEq, B.l.injEq, B.d.injEq, D.bl.injEq, D.str.injEq, D.lst.injEq, D.tup.injEq, Nat.zero_le]
      by_cases e : xs.length = rs.length
      · rw [if_pos (by simp [e])]
        refine lcg_map (fun d => .bl (isCount d)) (fun x hx acc Kc hz hK => ?_) (Nat.le_trans hl (by decide)) ?_
        · simp only [lcStep, IS.sms, IS.sm, IE.sm, IE.sms, IE.smo, pl, List.map_cons, List.map_nil, andW, orW, andT, orT, wisW, srcW, prs, ifsW, wNext, wSeq, wBrk, wCnt, wDrop, wRet, wIfS, wSet, wUnp, wPar, parGo, wFor, wc, w1, w2, waNil, waCons, wN, wTup, wLst, wtv, wtNot, wtAnd, wtOr, Pz.wNot, wAnd, wOr, wIf, wChain, wtCmp, wtChain, wSl, woNo, woE, wIsi, wMth, wApp, wExt, wPop, wDct0, wDct, dspGo, wLc, wiRng1, wiRng2, wiEnum, wtYes, S.mv, fBin, fCmp, retC, ent, Fn.g, zfz_d, zfz_l, zfz_m, zfz_p, zdatO, zdat_d, zdat_l, zdat_m, zlook_d, zlook_p, zofz_d, zofz_p, zfzO, zfz, zconsO, zlooks_nil, zlooks_cons, zfzs_nil, zfzs_cons, zwvO_d, zwvO_l, zwvO_m, zwv, zset, zput_d, zput_l, zput_m, zputO, zput_p, zpush_d, zpush_l, zpush_m, zpushO, zpush_p, zmvs_nil, zmvs_cons, zout_d, zout_l, zout_m, zoutO_d, zoutO_l, zoutO_m, zout_p, ztru_non, ztru_bl, ztru_int, ztru_str, ztru_lst, ztru_tup, ztru_dic, zadd_i, zadd_s, zadd_l, zadd_t, zsub, zmul_i, zmul_l, zmul_s, zmul_t, zdiv, zmod, zpow, zneg, zlt_i, zle_i, zgt_i, zge_i, zlt_s, zle_s, zgt_s, zge_s, zeq_i, zne_i, zeq_s, zne_s, zis, zis_b, zix_l, zix_t, zix_s, zsl_l, zsl_t, zsl_s, zlen_s, zlen_l, zlen_t, zlen_d, ztup_l, ztup_t, zlist_l, zlist_t, zmax, zmin, zall, zany, zsum, zsorted, zrepr, zset_nm, zset_tt, zset_tl, zsets_nil, zsets_cons, zseqK_l, zseqK_t, zseqK_s, zseq, zcall_pu, zdkK, zcall_dk, zuns_nil, zuns_cons, zbkO_d, zbkO_l, zbkO_m, zbkO_n, zbkO_0, zback_nil, zback_cons, zat0, zat1, zat2, zat3, zm_split, zm_words, zm_join_l, zm_join_t, zm_upper, zm_lower, D.tyS, Mth.ty, List.getElem?_cons_zero, List.getElem?_cons_succ, List.set_cons_zero, List.set_cons_succ, List.dropLast_cons_cons, List.dropLast_singleton, List.getLast?_cons_cons, List.getLast?_singleton, List.cons_append, List.nil_append, List.append_nil, List.reverse_cons, List.reverse_nil, Option.getD_some, Option.getD_none, Option.some.injEq, Option.bind_some, exists_eq_left', exists_eq_left, exists_eq_right, exists_and_left, true_and, and_true, if_true, if_false, reduceCtorEq, reduceIte, Bool.false_eq_true, Bool.false_xor, Bool.true_xor, List.replicate_succ, List.replicate_zero, List.length_cons, List.length_nil, Nat.zero_add, Nat.reduceAdd, Nat.reduceSub, O.d.injEq, D.int.injEq, Res.d.injEq, B.l.injEq, B.d.injEq, D.bl.injEq, D.str.injEq, D.lst.injEq, D.tup.injEq, Nat.zero_le, pfCount] at hK ⊢
          exact ⟨isDL_mem (by simpa [D.isD] using h1) x hx, hz, hK⟩
        · simp only [IS.sms, IS.sm, IE.sm, IE.sms, IE.smo, pl, List.map_cons, List.map_nil, andW, orW, andT, orT, wisW, srcW, prs, ifsW, wNext, wSeq, wBrk, wCnt, wDrop, wRet, wIfS, wSet, wUnp, wPar, parGo, wFor, wc, w1, w2, waNil, waCons, wN, wTup, wLst, wtv, wtNot, wtAnd, wtOr, Pz.wNot, wAnd, wOr, wIf, wChain, wtCmp, wtChain, wSl, woNo, woE, wIsi, wMth, wApp, wExt, wPop, wDct0, wDct, dspGo, wLc, wiRng1, wiRng2, wiEnum, wtYes, S.mv, fBin, fCmp, retC, ent, Fn.g, zfz_d, zfz_l, zfz_m, zfz_p, zdatO, zdat_d, zdat_l, zdat_m, zlook_d, zlook_p, zofz_d, zofz_p, zfzO, zfz, zconsO, zlooks_nil, zlooks_cons, zfzs_nil, zfzs_cons, zwvO_d, zwvO_l, zwvO_m, zwv, zset, zput_d, zput_l, zput_m, zputO, zput_p, zpush_d, zpush_l, zpush_m, zpushO, zpush_p, zmvs_nil, zmvs_cons, zout_d, zout_l, zout_m, zoutO_d, zoutO_l, zoutO_m, zout_p, ztru_non, ztru_bl, ztru_int, ztru_str, ztru_lst, ztru_tup, ztru_dic, zadd_i, zadd_s, zadd_l, zadd_t, zsub, zmul_i, zmul_l, zmul_s, zmul_t, zdiv, zmod, zpow, zneg, zlt_i, zle_i, zgt_i, zge_i, zlt_s, zle_s, zgt_s, zge_s, zeq_i, zne_i, zeq_s, zne_s, zis, zis_b, zix_l, zix_t, zix_s, zsl_l, zsl_t, zsl_s, zlen_s, zlen_l, zlen_t, zlen_d, ztup_l, ztup_t, zlist_l, zlist_t, zmax, zmin, zall, zany, zsum, zsorted, zrepr, zset_nm, zset_tt, zset_tl, zsets_nil, zsets_cons, zseqK_l, zseqK_t, zseqK_s, zseq, zcall_pu, zdkK, zcall_dk, zuns_nil, zuns_cons, zbkO_d, zbkO_l, zbkO_m, zbkO_n, zbkO_0, zback_nil, zback_cons, zat0, zat1, zat2, zat3, zm_split, zm_words, zm_join_l, zm_join_t, zm_upper, zm_lower, D.tyS, Mth.ty, List.getElem?_cons_zero, List.getElem?_cons_succ, List.set_cons_zero, List.set_cons_succ, List.dropLast_cons_cons, List.dropLast_singleton, List.getLast?_cons_cons, List.getLast?_singleton, List.cons_append, List.nil_append, List.append_nil, List.reverse_cons, List.reverse_nil, Option.getD_some, Option.getD_none, Option.some.injEq, Option.bind_some, exists_eq_left', exists_eq_left, exists_eq_right, exists_and_left, true_and, and_true, if_true, if_false, reduceCtorEq, reduceIte, Bool.false_eq_true, Bool.false_xor, Bool.true_xor, List.replicate_succ, List.replicate_zero, List.length_cons, List.length_nil, Nat.zero_add, Nat.reduceAdd, Nat.reduceSub, O.d.injEq, D.int.injEq, Res.d.injEq, B.l.injEq, B.d.injEq, D.bl.injEq, D.str.injEq, D.lst.injEq, D.tup.injEq, Nat.zero_le]
          refine ⟨xs.map isCount, by simp, ?_⟩
          simp only [isStand, e, List.all_map] at h2
          simpa using h2
      · rw [if_neg (by simp; omega)]
        simp only [isStand, e, decide_false, Bool.false_and] at h2
        have e' : ((xs.length : Int) = rs.length) = False := by simp; omega
        simp only [e', decide_false]
        exact h2
    | _ => exact h2
/-- draws: a bound that is never met -/
def dkLim : Nat := 1099511627776
def pfPick : List D → Nat → (Res → Nat → Prop) → Prop
  | [.lst xs], k, R => (xs ≠ [] ∧ xs.length < 1073741824 ∧ k < 1099511627776) ∧ ∀ x ∈ xs, R (.d x) (k + 1)
  | _, _, _ => False
theorem k_pick (F : Fs) (hF : F.fn "_law_draw" = some (.dk pfDraw)) : Keeps F N_law_pick b_law_pick (.dk pfPick) := by
  intro p c ds k R h
  match ds, h with
  | [.lst xs], ⟨⟨h1, h2, h3⟩, hR⟩ =>
    have hpos : 0 < xs.length := by
      cases xs with
      | nil => exact absurd rfl h1
      | cons _ _ => simp
    simp only [N_law_pick, b_law_pick, IS.sms, IS.sm, IE.sm, IE.sms, IE.smo, pl, List.map_cons, List.map_nil, andW, orW, andT, orT, wisW, srcW, prs, ifsW, wNext, wSeq, wBrk, wCnt, wDrop, wRet, wIfS, wSet, wUnp, wPar, parGo, wFor, wc, w1, w2, waNil, waCons, wN, wTup, wLst, wtv, wtNot, wtAnd, wtOr, Pz.wNot, wAnd, wOr, wIf, wChain, wtCmp, wtChain, wSl, woNo, woE, wIsi, wMth, wApp, wExt, wPop, wDct0, wDct, dspGo, wLc, wiRng1, wiRng2, wiEnum, wtYes, S.mv, fBin, fCmp, retC, ent, Fn.g, zfz_d, zfz_l, zfz_m, zfz_p, zdatO, zdat_d, zdat_l, zdat_m, zlook_d, zlook_p, zofz_d, zofz_p, zfzO, zfz, zconsO, zlooks_nil, zlooks_cons, zfzs_nil, zfzs_cons, zwvO_d, zwvO_l, zwvO_m, zwv, zset, zput_d, zput_l, zput_m, zputO, zput_p, zpush_d, zpush_l, zpush_m, zpushO, zpush_p, zmvs_nil, zmvs_cons, zout_d, zout_l, zout_m, zoutO_d, zoutO_l, zoutO_m, zout_p, ztru_non, ztru_bl, ztru_int, ztru_str, ztru_lst, ztru_tup, ztru_dic, zadd_i, zadd_s, zadd_l, zadd_t, zsub, zmul_i, zmul_l, zmul_s, zmul_t, zdiv, zmod, zpow, zneg, zlt_i, zle_i, zgt_i, zge_i, zlt_s, zle_s, zgt_s, zge_s, zeq_i, zne_i, zeq_s, zne_s, zis, zis_b, zix_l, zix_t, zix_s, zsl_l, zsl_t, zsl_s, zlen_s, zlen_l, zlen_t, zlen_d, ztup_l, ztup_t, zlist_l, zlist_t, zmax, zmin, zall, zany, zsum, zsorted, zrepr, zset_nm, zset_tt, zset_tl, zsets_nil, zsets_cons, zseqK_l, zseqK_t, zseqK_s, zseq, zcall_pu, zdkK, zcall_dk, zuns_nil, zuns_cons, zbkO_d, zbkO_l, zbkO_m, zbkO_n, zbkO_0, zback_nil, zback_cons, zat0, zat1, zat2, zat3, zm_split, zm_words, zm_join_l, zm_join_t, zm_upper, zm_lower, D.tyS, Mth.ty, List.getElem?_cons_zero, List.getElem?_cons_succ, List.set_cons_zero, List.set_cons_succ, List.dropLast_cons_cons, List.dropLast_singleton, List.getLast?_cons_cons, List.getLast?_singleton, List.cons_append, List.nil_append, List.append_nil, List.reverse_cons, List.reverse_nil, Option.getD_some, Option.getD_none, Option.some.injEq, Option.bind_some, exists_eq_left', exists_eq_left, exists_eq_right, exists_and_left, true_and, and_true, if_true, if_false, reduceCtorEq, reduceIte, Bool.false_eq_true, Bool.false_xor, Bool.true_xor, List.replicate_succ, List.replicate_zero, List.length_cons, List.length_nil, Nat.zero_add, Nat.reduceAdd, Nat.reduceSub, O.d.injEq, D.int.injEq, Res.d.injEq, B.l.injEq, B.d.injEq, D.bl.injEq, D.str.injEq, D.lst.injEq, D.tup.injEq, Nat.zero_le, hF, pfDraw]
    refine ⟨⟨by omega, by omega, h3⟩, fun i h0 h4 => ?_⟩
    obtain ⟨x, e1, e2, _⟩ := atI_ok h0 h4
    exact ⟨x, e1, hR x e2⟩
def lowS (n : Nat) (d : D) : Prop := ∃ x : Str, d = .str x ∧ Low n x
def pfLabels : List D → Nat → (Res → Nat → Prop) → Prop
  | [.int n], k, R => (0 ≤ n ∧ n ≤ 1000 ∧ k + 2 < 1099511627776) ∧ ∀ xs : List D, (xs.length : Int) = n → (∀ d ∈ xs, lowS 8 d) → R (.l xs) (k + 2)
  | _, _, _ => False
theorem k_labels (F : Fs) (hF : F.fn "_law_draw" = some (.dk pfDraw)) : Keeps F N_law_labels b_law_labels (.dk pfLabels) := by
  intro p c ds k R h
  match ds, h with
  | [.int n], ⟨⟨h1, h2, h3⟩, hR⟩ =>
    simp only [N_law_labels, b_law_labels, IS.sms, IS.sm, IE.sm, IE.sms, IE.smo, pl, List.map_cons, List.map_nil, andW, orW, andT, orT, wisW, srcW, prs, ifsW, wNext, wSeq, wBrk, wCnt, wDrop, wRet, wIfS, wSet, wUnp, wPar, parGo, wFor, wc, w1, w2, waNil, waCons, wN, wTup, wLst, wtv, wtNot, wtAnd, wtOr, Pz.wNot, wAnd, wOr, wIf, wChain, wtCmp, wtChain, wSl, woNo, woE, wIsi, wMth, wApp, wExt, wPop, wDct0, wDct, dspGo, wLc, wiRng1, wiRng2, wiEnum, wtYes, S.mv, fBin, fCmp, retC, ent, Fn.g, zfz_d, zfz_l, zfz_m, zfz_p, zdatO, zdat_d, zdat_l, zdat_m, zlook_d, zlook_p, zofz_d, zofz_p, zfzO, zfz, zconsO, zlooks_nil, zlooks_cons, zfzs_nil, zfzs_cons, zwvO_d, zwvO_l, zwvO_m, zwv, zset, zput_d, zput_l, zput_m, zputO, zput_p, zpush_d, zpush_l, zpush_m, zpushO, zpush_p, zmvs_nil, zmvs_cons, zout_d, zout_l, zout_m, zoutO_d, zoutO_l, zoutO_m, zout_p, ztru_non, ztru_bl, ztru_int, ztru_str, ztru_lst, ztru_tup, ztru_dic, zadd_i, zadd_s, zadd_l, zadd_t, zsub, zmul_i, zmul_l, zmul_s, zmul_t, zdiv, zmod, zpow, zneg, zlt_i, zle_i, zgt_i, zge_i, zlt_s, zle_s, zgt_s, zge_s, zeq_i, zne_i, zeq_s, zne_s, zis, zis_b, zix_l, zix_t, zix_s, zsl_l, zsl_t, zsl_s, zlen_s, zlen_l, zlen_t, zlen_d, ztup_l, ztup_t, zlist_l, zlist_t, zmax, zmin, zall, zany, zsum, zsorted, zrepr, zset_nm, zset_tt, zset_tl, zsets_nil, zsets_cons, zseqK_l, zseqK_t, zseqK_s, zseq, zcall_pu, zdkK, zcall_dk, zuns_nil, zuns_cons, zbkO_d, zbkO_l, zbkO_m, zbkO_n, zbkO_0, zback_nil, zback_cons, zat0, zat1, zat2, zat3, zm_split, zm_words, zm_join_l, zm_join_t, zm_upper, zm_lower, D.tyS, Mth.ty, List.getElem?_cons_zero, List.getElem?_cons_succ, List.set_cons_zero, List.set_cons_succ, List.dropLast_cons_cons, List.dropLast_singleton, List.getLast?_cons_cons, List.getLast?_singleton, List.cons_append, List.nil_append, List.append_nil, List.reverse_cons, List.reverse_nil, Option.getD_some, Option.getD_none, Option.some.injEq, Option.bind_some, exists_eq_left', exists_eq_left, exists_eq_right, exists_and_left, true_and, and_true, if_true, if_false, reduceCtorEq, reduceIte, Bool.false_eq_true, Bool.false_xor, Bool.true_xor, List.replicate_succ, List.replicate_zero, List.length_cons, List.length_nil, Nat.zero_add, Nat.reduceAdd, Nat.reduceSub, O.d.injEq, D.int.injEq, Res.d.injEq, B.l.injEq, B.d.injEq, D.bl.injEq, D.str.injEq, D.lst.injEq, D.tup.injEq, Nat.zero_le, hF, pfDraw]
    refine ⟨⟨by decide, by decide, by omega⟩, fun w w0 w1 => ⟨⟨by decide, by decide, by omega⟩, fun f f0 f1 => ?_⟩⟩
    have wl : 18 ≤ ((Txt.split "outside any as with to start ask door beam hall went none all room open shut parted same" " ").map D.str).length := by decide +kernel
    have wa : ∀ x ∈ Txt.split "outside any as with to start ask door beam hall went none all room open shut parted same" " ", Low 7 x := by
      have : (Txt.split "outside any as with to start ask door beam hall went none all room open shut parted same" " ").all (fun x => x.cps.toList.all (fun c => decide (c < 128)) && decide (x.length ≤ 7)) = true := by decide +kernel
      intro x hx
      have := List.all_eq_true.mp this x hx
      simp only [Bool.and_eq_true, List.all_eq_true, decide_eq_true_eq] at this
      exact this
    generalize Txt.split "outside any as with to start ask door beam hall went none all room open shut parted same" " " = ws at wl wa ⊢
    refine ⟨⟨by decide +kernel, by decide +kernel⟩, ⟨by omega, by omega⟩, ?_⟩
    have la : Low 26 "abcdefghijklmnopqrstuvwxyz" := by
      have : ((("abcdefghijklmnopqrstuvwxyz" : Str).cps.toList.all (fun c => decide (c < 128))) && decide (("abcdefghijklmnopqrstuvwxyz" : Str).length ≤ 26)) = true := by decide +kernel
      simp only [Bool.and_eq_true, List.all_eq_true, decide_eq_true_eq] at this
      exact this
    have ll : ("abcdefghijklmnopqrstuvwxyz" : Str).cps.toList.length = 26 := by decide +kernel
    have lz : ("abcdefghijklmnopqrstuvwxyz" : Str).length ≤ sizeLine := by decide +kernel
    have wd : Low 4 "ward" := by
      have : ((("ward" : Str).cps.toList.all (fun c => decide (c < 128))) && decide (("ward" : Str).length ≤ 4)) = true := by decide +kernel
      simp only [Bool.and_eq_true, List.all_eq_true, decide_eq_true_eq] at this
      exact this
    generalize Str.ofString "abcdefghijklmnopqrstuvwxyz" = letters at la ll lz ⊢
    generalize Str.ofString "ward" = ward at wd ⊢
    refine for_inv (fun i ρ => ∃ (acc : List D) (a b : Option B), ρ = ⟨[some (.d (.cst (.ref p))), some (.d (.int n)), some (.d (.int w)), some (.d (.int f)), some (.d (.str letters)), some (.l (ws.map .str)), some (.l acc), a, b], k + 2⟩ ∧ acc.length = i ∧ ∀ d ∈ acc, lowS 8 d)
      ⟨[], none, none, rfl, rfl, fun d hd => by cases hd⟩ (fun i x ρ Kn hx ⟨acc, a, b, e, hl, hd⟩ hK => ?_) fun ρ ⟨acc, a, b, e, hl, hd⟩ => ?_
    · subst e
      obtain ⟨hi, rfl⟩ := rngL_get hx
      simp only [IS.sms, IS.sm, IE.sm, IE.sms, IE.smo, pl, List.map_cons, List.map_nil, andW, orW, andT, orT, wisW, srcW, prs, ifsW, wNext, wSeq, wBrk, wCnt, wDrop, wRet, wIfS, wSet, wUnp, wPar, parGo, wFor, wc, w1, w2, waNil, waCons, wN, wTup, wLst, wtv, wtNot, wtAnd, wtOr, Pz.wNot, wAnd, wOr, wIf, wChain, wtCmp, wtChain, wSl, woNo, woE, wIsi, wMth, wApp, wExt, wPop, wDct0, wDct, dspGo, wLc, wiRng1, wiRng2, wiEnum, wtYes, S.mv, fBin, fCmp, retC, ent, Fn.g, zfz_d, zfz_l, zfz_m, zfz_p, zdatO, zdat_d, zdat_l, zdat_m, zlook_d, zlook_p, zofz_d, zofz_p, zfzO, zfz, zconsO, zlooks_nil, zlooks_cons, zfzs_nil, zfzs_cons, zwvO_d, zwvO_l, zwvO_m, zwv, zset, zput_d, zput_l, zput_m, zputO, zput_p, zpush_d, zpush_l, zpush_m, zpushO, zpush_p, zmvs_nil, zmvs_cons, zout_d, zout_l, zout_m, zoutO_d, zoutO_l, zoutO_m, zout_p, ztru_non, ztru_bl, ztru_int, ztru_str, ztru_lst, ztru_tup, ztru_dic, zadd_i, zadd_s, zadd_l, zadd_t, zsub, zmul_i, zmul_l, zmul_s, zmul_t, zdiv, zmod, zpow, zneg, zlt_i, zle_i, zgt_i, zge_i, zlt_s, zle_s, zgt_s, zge_s, zeq_i, zne_i, zeq_s, zne_s, zis, zis_b, zix_l, zix_t, zix_s, zsl_l, zsl_t, zsl_s, zlen_s, zlen_l, zlen_t, zlen_d, ztup_l, ztup_t, zlist_l, zlist_t, zmax, zmin, zall, zany, zsum, zsorted, zrepr, zset_nm, zset_tt, zset_tl, zsets_nil, zsets_cons, zseqK_l, zseqK_t, zseqK_s, zseq, zcall_pu, zdkK, zcall_dk, zuns_nil, zuns_cons, zbkO_d, zbkO_l, zbkO_m, zbkO_n, zbkO_0, zback_nil, zback_cons, zat0, zat1, zat2, zat3, zm_split, zm_words, zm_join_l, zm_join_t, zm_upper, zm_lower, D.tyS, Mth.ty, List.getElem?_cons_zero, List.getElem?_cons_succ, List.set_cons_zero, List.set_cons_succ, List.dropLast_cons_cons, List.dropLast_singleton, List.getLast?_cons_cons, List.getLast?_singleton, List.cons_append, List.nil_append, List.append_nil, List.reverse_cons, List.reverse_nil, Option.getD_some, Option.getD_none, Option.some.injEq, Option.bind_some, exists_eq_left', exists_eq_left, exists_eq_right, exists_and_left, true_and, and_true, if_true, if_false, reduceCtorEq, reduceIte, Bool.false_eq_true, Bool.false_xor, Bool.true_xor, List.replicate_succ, List.replicate_zero, List.length_cons, List.length_nil, Nat.zero_add, Nat.reduceAdd, Nat.reduceSub, O.d.injEq, D.int.injEq, Res.d.injEq, B.l.injEq, B.d.injEq, D.bl.injEq, D.str.injEq, D.lst.injEq, D.tup.injEq, Nat.zero_le]
      have em : ∀ (a b : Int), 0 < b → 0 ≤ a % b ∧ a % b < b := fun a b h => ⟨Int.emod_nonneg _ (by omega), Int.emod_lt_of_pos _ h⟩
      obtain ⟨x, e1, e2, _⟩ := atI_ok (xs := letters.cps.toList) (em (f + 7 * (0 + (i : Int))) 26 (by decide)).1 (by rw [ll]; exact (em _ 26 (by decide)).2)
      obtain ⟨d, g1, g2, _⟩ := atI_ok (xs := ws.map D.str) (em (f + (0 + (i : Int))) 18 (by decide)).1 (Int.lt_of_lt_of_le (em _ 18 (by decide)).2 (by exact Int.ofNat_le.mpr wl))
      have lx : Low 1 ⟨#[x]⟩ := Low.one (la.1 x e2)
      have lc := wd.cut none (some ((0 + (i : Int)) % 4))
      have lr := lx.rep 2
      have sz : sizeLine = 16777216 := sizeLine_eq
      refine ⟨.inl ⟨by decide, by decide⟩, by decide, lz, x, e1, ⟨acc, rfl⟩, by decide, Nat.le_trans wd.2 (by decide), ⟨by decide, by decide, ?_⟩, ?_, by decide, d, g1, by decide, ?_⟩
      · have := lx.2
        have e : Int.toNat 2 = 2 := rfl
        rw [e]; omega
      · have h1 := lc.2
        have h2 : (strRep { cps := #[x] } 2).length ≤ 1 * 2 + 1 := lr.2
        omega
      obtain ⟨y, q1, q2, _⟩ := atI_ok (xs := [D.str { cps := #[x] }, D.str (cutS ward none (some ((0 + (i : Int)) % 4)) ++ strRep { cps := #[x] } 2), d]) w0 (by simpa using w1)
      refine ⟨y, q1, by omega, hK _ ⟨acc ++ [y], _, _, rfl, by simp [hl], fun z hz => ?_⟩⟩
      rcases List.mem_append.mp hz with hz | hz
      · exact hd z hz
      · have hz : z = y := by simpa using hz
        subst hz
        simp only [List.mem_cons, List.not_mem_nil, or_false] at q2
        rcases q2 with rfl | rfl | rfl
        · exact ⟨_, rfl, lx.mono (by decide)⟩
        · exact ⟨_, rfl, (lc.add lr).mono (by decide)⟩
        · obtain ⟨s, hs, rfl⟩ := List.mem_map.mp g2
          exact ⟨_, rfl, (wa s hs).mono (by decide)⟩
    · subst e
      simp only [IS.sms, IS.sm, IE.sm, IE.sms, IE.smo, pl, List.map_cons, List.map_nil, andW, orW, andT, orT, wisW, srcW, prs, ifsW, wNext, wSeq, wBrk, wCnt, wDrop, wRet, wIfS, wSet, wUnp, wPar, parGo, wFor, wc, w1, w2, waNil, waCons, wN, wTup, wLst, wtv, wtNot, wtAnd, wtOr, Pz.wNot, wAnd, wOr, wIf, wChain, wtCmp, wtChain, wSl, woNo, woE, wIsi, wMth, wApp, wExt, wPop, wDct0, wDct, dspGo, wLc, wiRng1, wiRng2, wiEnum, wtYes, S.mv, fBin, fCmp, retC, ent, Fn.g, zfz_d, zfz_l, zfz_m, zfz_p, zdatO, zdat_d, zdat_l, zdat_m, zlook_d, zlook_p, zofz_d, zofz_p, zfzO, zfz, zconsO, zlooks_nil, zlooks_cons, zfzs_nil, zfzs_cons, zwvO_d, zwvO_l, zwvO_m, zwv, zset, zput_d, zput_l, zput_m, zputO, zput_p, zpush_d, zpush_l, zpush_m, zpushO, zpush_p, zmvs_nil, zmvs_cons, zout_d, zout_l, zout_m, zoutO_d, zoutO_l, zoutO_m, zout_p, ztru_non, ztru_bl, ztru_int, ztru_str, ztru_lst, ztru_tup, ztru_dic, zadd_i, zadd_s, zadd_l, zadd_t, zsub, zmul_i, zmul_l, zmul_s, zmul_t, zdiv, zmod, zpow, zneg, zlt_i, zle_i, zgt_i, zge_i, zlt_s, zle_s, zgt_s, zge_s, zeq_i, zne_i, zeq_s, zne_s, zis, zis_b, zix_l, zix_t, zix_s, zsl_l, zsl_t, zsl_s, zlen_s, zlen_l, zlen_t, zlen_d, ztup_l, ztup_t, zlist_l, zlist_t, zmax, zmin, zall, zany, zsum, zsorted, zrepr, zset_nm, zset_tt, zset_tl, zsets_nil, zsets_cons, zseqK_l, zseqK_t, zseqK_s, zseq, zcall_pu, zdkK, zcall_dk, zuns_nil, zuns_cons, zbkO_d, zbkO_l, zbkO_m, zbkO_n, zbkO_0, zback_nil, zback_cons, zat0, zat1, zat2, zat3, zm_split, zm_words, zm_join_l, zm_join_t, zm_upper, zm_lower, D.tyS, Mth.ty, List.getElem?_cons_zero, List.getElem?_cons_succ, List.set_cons_zero, List.set_cons_succ, List.dropLast_cons_cons, List.dropLast_singleton, List.getLast?_cons_cons, List.getLast?_singleton, List.cons_append, List.nil_append, List.append_nil, List.reverse_cons, List.reverse_nil, Option.getD_some, Option.getD_none, Option.some.injEq, Option.bind_some, exists_eq_left', exists_eq_left, exists_eq_right, exists_and_left, true_and, and_true, if_true, if_false, reduceCtorEq, reduceIte, Bool.false_eq_true, Bool.false_xor, Bool.true_xor, List.replicate_succ, List.replicate_zero, List.length_cons, List.length_nil, Nat.zero_add, Nat.reduceAdd, Nat.reduceSub, O.d.injEq, D.int.injEq, Res.d.injEq, B.l.injEq, B.d.injEq, D.bl.injEq, D.str.injEq, D.lst.injEq, D.tup.injEq, Nat.zero_le]
      rw [rngL_len] at hl
      exact hR acc (by omega) hd
def pfEnds : List D → Nat → (Res → Nat → Prop) → Prop
  | [.lst xs], k, R => (xs ≠ [] ∧ xs.length < 1073741824 ∧ k + 2 < 1099511627776) ∧ ∀ x ∈ xs, ∀ y, (y = .non ∨ y ∈ xs) → R (.d (.tup [x, y])) (k + 2)
  | _, _, _ => False
theorem k_ends (F : Fs) (hF : F.fn "_law_draw" = some (.dk pfDraw)) : Keeps F N_law_ends b_law_ends (.dk pfEnds) := by
  intro p c ds k R h
  match ds, h with
  | [.lst xs], ⟨⟨h1, h2, h3⟩, hR⟩ =>
    have hpos : 0 < xs.length := by
      cases xs with
      | nil => exact absurd rfl h1
      | cons _ _ => simp
    simp only [N_law_ends, b_law_ends, IS.sms, IS.sm, IE.sm, IE.sms, IE.smo, pl, List.map_cons, List.map_nil, andW, orW, andT, orT, wisW, srcW, prs, ifsW, wNext, wSeq, wBrk, wCnt, wDrop, wRet, wIfS, wSet, wUnp, wPar, parGo, wFor, wc, w1, w2, waNil, waCons, wN, wTup, wLst, wtv, wtNot, wtAnd, wtOr, Pz.wNot, wAnd, wOr, wIf, wChain, wtCmp, wtChain, wSl, woNo, woE, wIsi, wMth, wApp, wExt, wPop, wDct0, wDct, dspGo, wLc, wiRng1, wiRng2, wiEnum, wtYes, S.mv, fBin, fCmp, retC, ent, Fn.g, zfz_d, zfz_l, zfz_m, zfz_p, zdatO, zdat_d, zdat_l, zdat_m, zlook_d, zlook_p, zofz_d, zofz_p, zfzO, zfz, zconsO, zlooks_nil, zlooks_cons, zfzs_nil, zfzs_cons, zwvO_d, zwvO_l, zwvO_m, zwv, zset, zput_d, zput_l, zput_m, zputO, zput_p, zpush_d, zpush_l, zpush_m, zpushO, zpush_p, zmvs_nil, zmvs_cons, zout_d, zout_l, zout_m, zoutO_d, zoutO_l, zoutO_m, zout_p, ztru_non, ztru_bl, ztru_int, ztru_str, ztru_lst, ztru_tup, ztru_dic, zadd_i, zadd_s, zadd_l, zadd_t, zsub, zmul_i, zmul_l, zmul_s, zmul_t, zdiv, zmod, zpow, zneg, zlt_i, zle_i, zgt_i, zge_i, zlt_s, zle_s, zgt_s, zge_s, zeq_i, zne_i, zeq_s, zne_s, zis, zis_b, zix_l, zix_t, zix_s, zsl_l, zsl_t, zsl_s, zlen_s, zlen_l, zlen_t, zlen_d, ztup_l, ztup_t, zlist_l, zlist_t, zmax, zmin, zall, zany, zsum, zsorted, zrepr, zset_nm, zset_tt, zset_tl, zsets_nil, zsets_cons, zseqK_l, zseqK_t, zseqK_s, zseq, zcall_pu, zdkK, zcall_dk, zuns_nil, zuns_cons, zbkO_d, zbkO_l, zbkO_m, zbkO_n, zbkO_0, zback_nil, zback_cons, zat0, zat1, zat2, zat3, zm_split, zm_words, zm_join_l, zm_join_t, zm_upper, zm_lower, D.tyS, Mth.ty, List.getElem?_cons_zero, List.getElem?_cons_succ, List.set_cons_zero, List.set_cons_succ, List.dropLast_cons_cons, List.dropLast_singleton, List.getLast?_cons_cons, List.getLast?_singleton, List.cons_append, List.nil_append, List.append_nil, List.reverse_cons, List.reverse_nil, Option.getD_some, Option.getD_none, Option.some.injEq, Option.bind_some, exists_eq_left', exists_eq_left, exists_eq_right, exists_and_left, true_and, and_true, if_true, if_false, reduceCtorEq, reduceIte, Bool.false_eq_true, Bool.false_xor, Bool.true_xor, List.replicate_succ, List.replicate_zero, List.length_cons, List.length_nil, Nat.zero_add, Nat.reduceAdd, Nat.reduceSub, O.d.injEq, D.int.injEq, Res.d.injEq, B.l.injEq, B.d.injEq, D.bl.injEq, D.str.injEq, D.lst.injEq, D.tup.injEq, Nat.zero_le, hF, pfDraw]
    refine ⟨⟨by omega, by omega, by omega⟩, fun i i0 i1 => ⟨⟨by omega, by omega, by omega⟩, fun j j0 j1 => ?_⟩⟩
    by_cases e : i = j
    · rw [if_pos (by simp [e])]
      obtain ⟨x, e1, e2, _⟩ := atI_ok i0 i1
      exact ⟨x, e1, by decide, hR x e2 .non (.inl rfl)⟩
    · rw [if_neg (by simp [e])]
      have a1 : 0 ≤ (if j < i then j else i) ∧ (if j < i then j else i) < (xs.length : Int) := by split <;> omega
      have a2 : 0 ≤ (if j > i then j else i) ∧ (if j > i then j else i) < (xs.length : Int) := by split <;> omega
      obtain ⟨x, e1, e2, _⟩ := atI_ok a1.1 a1.2
      obtain ⟨y, f1, f2, _⟩ := atI_ok a2.1 a2.2
      exact ⟨x, e1, y, f1, by decide, hR x e2 y (.inr f2)⟩
def leaf (d : D) : Prop := d = .non ∨ lowS 8 d
def doorOk (d : D) : Prop := ∃ xs, d = .tup xs ∧ xs.length = 3 ∧ ∀ x ∈ xs, leaf x
def pfHouse : List D → Nat → (Res → Nat → Prop) → Prop
  | [.int a, .int b], k, R => (1 ≤ a ∧ a ≤ 100 ∧ 0 ≤ b ∧ b ≤ 100 ∧ k + 10000 < 1099511627776) ∧ ∀ (rs ds : List D) (k' : Nat), 1 ≤ rs.length → (rs.length : Int) ≤ a → (∀ d ∈ rs, lowS 8 d) → (ds.length : Int) ≤ b → (∀ d ∈ ds, doorOk d) → k' ≤ k + 300 → R (.d (.tup [.tup rs, .tup ds])) k'
  | _, _, _ => False
theorem low_str {xs : List D} (h : ∀ d ∈ xs, lowS 8 d) : ∀ d ∈ xs, ∃ x, d = .str x := fun d hd => by
  obtain ⟨x, hx, _⟩ := h d hd
  exact ⟨x, hx⟩
theorem k_house (F : Fs) (hF : F.fn "_law_draw" = some (.dk pfDraw)) (hL : F.fn "_law_labels" = some (.dk pfLabels)) (hE : F.fn "_law_ends" = some (.dk pfEnds)) : Keeps F N_law_house b_law_house (.dk pfHouse) := by
  intro p c ds k R h
  have sz : sizeLine = 16777216 := sizeLine_eq
  match ds, h with
  | [.int a, .int b], ⟨⟨h1, h2, h3, h4, h5⟩, hR⟩ =>
    simp only [N_law_house, b_law_house, IS.sms, IS.sm, IE.sm, IE.sms, IE.smo, pl, List.map_cons, List.map_nil, andW, orW, andT, orT, wisW, srcW, prs, ifsW, wNext, wSeq, wBrk, wCnt, wDrop, wRet, wIfS, wSet, wUnp, wPar, parGo, wFor, wc, w1, w2, waNil, waCons, wN, wTup, wLst, wtv, wtNot, wtAnd, wtOr, Pz.wNot, wAnd, wOr, wIf, wChain, wtCmp, wtChain, wSl, woNo, woE, wIsi, wMth, wApp, wExt, wPop, wDct0, wDct, dspGo, wLc, wiRng1, wiRng2, wiEnum, wtYes, S.mv, fBin, fCmp, retC, ent, Fn.g, zfz_d, zfz_l, zfz_m, zfz_p, zdatO, zdat_d, zdat_l, zdat_m, zlook_d, zlook_p, zofz_d, zofz_p, zfzO, zfz, zconsO, zlooks_nil, zlooks_cons, zfzs_nil, zfzs_cons, zwvO_d, zwvO_l, zwvO_m, zwv, zset, zput_d, zput_l, zput_m, zputO, zput_p, zpush_d, zpush_l, zpush_m, zpushO, zpush_p, zmvs_nil, zmvs_cons, zout_d, zout_l, zout_m, zoutO_d, zoutO_l, zoutO_m, zout_p, ztru_non, ztru_bl, ztru_int, ztru_str, ztru_lst, ztru_tup, ztru_dic, zadd_i, zadd_s, zadd_l, zadd_t, zsub, zmul_i, zmul_l, zmul_s, zmul_t, zdiv, zmod, zpow, zneg, zlt_i, zle_i, zgt_i, zge_i, zlt_s, zle_s, zgt_s, zge_s, zeq_i, zne_i, zeq_s, zne_s, zis, zis_b, zix_l, zix_t, zix_s, zsl_l, zsl_t, zsl_s, zlen_s, zlen_l, zlen_t, zlen_d, ztup_l, ztup_t, zlist_l, zlist_t, zmax, zmin, zall, zany, zsum, zsorted, zrepr, zset_nm, zset_tt, zset_tl, zsets_nil, zsets_cons, zseqK_l, zseqK_t, zseqK_s, zseq, zcall_pu, zdkK, zcall_dk, zuns_nil, zuns_cons, zbkO_d, zbkO_l, zbkO_m, zbkO_n, zbkO_0, zback_nil, zback_cons, zat0, zat1, zat2, zat3, zm_split, zm_words, zm_join_l, zm_join_t, zm_upper, zm_lower, D.tyS, Mth.ty, List.getElem?_cons_zero, List.getElem?_cons_succ, List.set_cons_zero, List.set_cons_succ, List.dropLast_cons_cons, List.dropLast_singleton, List.getLast?_cons_cons, List.getLast?_singleton, List.cons_append, List.nil_append, List.append_nil, List.reverse_cons, List.reverse_nil, Option.getD_some, Option.getD_none, Option.some.injEq, Option.bind_some, exists_eq_left', exists_eq_left, exists_eq_right, exists_and_left, true_and, and_true, if_true, if_false, reduceCtorEq, reduceIte, Bool.false_eq_true, Bool.false_xor, Bool.true_xor, List.replicate_succ, List.replicate_zero, List.length_cons, List.length_nil, Nat.zero_add, Nat.reduceAdd, Nat.reduceSub, O.d.injEq, D.int.injEq, Res.d.injEq, B.l.injEq, B.d.injEq, D.bl.injEq, D.str.injEq, D.lst.injEq, D.tup.injEq, Nat.zero_le, hF, hL, hE, pfDraw, pfLabels]
    refine ⟨⟨by omega, by omega, by omega⟩, fun i i0 i1 => ⟨⟨by omega, by omega, by omega⟩, fun rs hrl hrs => ?_⟩⟩
    refine ⟨okSort_strs (low_str hrs) (by omega), ⟨by omega, by omega, by omega⟩, fun j j0 j1 => ⟨⟨by omega, by omega, by omega⟩, fun ls hll hls => ?_⟩⟩
    refine ⟨okSort_strs (low_str hls) (by omega), ?_⟩
    have s1 := sortD_len rs
    have s2 := sortD_len ls
    have hrs' : ∀ d ∈ sortD rs, lowS 8 d := fun d hd => hrs d (sortD_mem.mp hd)
    have hls' : ∀ d ∈ sortD ls, lowS 8 d := fun d hd => hls d (sortD_mem.mp hd)
    generalize sortD rs = rs' at s1 hrs' ⊢
    generalize sortD ls = ls' at s2 hls' ⊢
    refine for_inv (fun i ρ => ∃ (acc : List D) (b3 lb : Option B) (kk : Nat), ρ = ⟨[some (.d (.cst (.ref p))), some (.d (.int a)), some (.d (.int b)), b3, some (.l acc), lb], kk⟩ ∧ (b3 = some (.l rs') ∨ b3 = some (.d (.lst rs'))) ∧ acc.length = i ∧ (∀ d ∈ acc, doorOk d) ∧ kk = k + 6 + 2 * i)
      ⟨[], _, none, _, rfl, .inl rfl, rfl, (fun d hd => by cases hd), by omega⟩ (fun i x ρ Kn hx ⟨acc, b3, lb, kk, e, hb, hl, hd, hk⟩ hK => ?_) fun ρ ⟨acc, b3, lb, kk, e, hb, hl, hd, hk⟩ => ?_
    · subst e
      have hi := (List.getElem?_eq_some_iff.mp hx).1
      obtain ⟨lbl, rfl, hlow⟩ := hls' x (List.mem_of_getElem? hx)
      have fin : ∀ (y z : D), y ∈ rs' → (z = .non ∨ z ∈ rs') → doorOk (.tup ([D.str lbl] ++ [y, z])) := fun y z hy hz => ⟨_, rfl, rfl, fun u hu => by
        simp only [List.cons_append, List.nil_append, List.mem_cons, List.not_mem_nil, or_false] at hu
        rcases hu with rfl | rfl | rfl
        · exact .inr ⟨_, rfl, hlow⟩
        · exact .inr (hrs' _ hy)
        · exact hz.elim .inl fun h => .inr (hrs' _ h)⟩
      have ne : rs' ≠ [] := fun z => by rw [z] at s1; simp at s1; omega
      rcases hb with rfl | rfl
      · simp only [IS.sms, IS.sm, IE.sm, IE.sms, IE.smo, pl, List.map_cons, List.map_nil, andW, orW, andT, orT, wisW, srcW, prs, ifsW, wNext, wSeq, wBrk, wCnt, wDrop, wRet, wIfS, wSet, wUnp, wPar, parGo, wFor, wc, w1, w2, waNil, waCons, wN, wTup, wLst, wtv, wtNot, wtAnd, wtOr, Pz.wNot, wAnd, wOr, wIf, wChain, wtCmp, wtChain, wSl, woNo, woE, wIsi, wMth, wApp, wExt, wPop, wDct0, wDct, dspGo, wLc, wiRng1, wiRng2, wiEnum, wtYes, S.mv, fBin, fCmp, retC, ent, Fn.g, zfz_d, zfz_l, zfz_m, zfz_p, zdatO, zdat_d, zdat_l, zdat_m, zlook_d, zlook_p, zofz_d, zofz_p, zfzO, zfz, zconsO, zlooks_nil, zlooks_cons, zfzs_nil, zfzs_cons, zwvO_d, zwvO_l, zwvO_m, zwv, zset, zput_d, zput_l, zput_m, zputO, zput_p, zpush_d, zpush_l, zpush_m, zpushO, zpush_p, zmvs_nil, zmvs_cons, zout_d, zout_l, zout_m, zoutO_d, zoutO_l, zoutO_m, zout_p, ztru_non, ztru_bl, ztru_int, ztru_str, ztru_lst, ztru_tup, ztru_dic, zadd_i, zadd_s, zadd_l, zadd_t, zsub, zmul_i, zmul_l, zmul_s, zmul_t, zdiv, zmod, zpow, zneg, zlt_i, zle_i, zgt_i, zge_i, zlt_s, zle_s, zgt_s, zge_s, zeq_i, zne_i, zeq_s, zne_s, zis, zis_b, zix_l, zix_t, zix_s, zsl_l, zsl_t, zsl_s, zlen_s, zlen_l, zlen_t, zlen_d, ztup_l, ztup_t, zlist_l, zlist_t, zmax, zmin, zall, zany, zsum, zsorted, zrepr, zset_nm, zset_tt, zset_tl, zsets_nil, zsets_cons, zseqK_l, zseqK_t, zseqK_s, zseq, zcall_pu, zdkK, zcall_dk, zuns_nil, zuns_cons, zbkO_d, zbkO_l, zbkO_m, zbkO_n, zbkO_0, zback_nil, zback_cons, zat0, zat1, zat2, zat3, zm_split, zm_words, zm_join_l, zm_join_t, zm_upper, zm_lower, D.tyS, Mth.ty, List.getElem?_cons_zero, List.getElem?_cons_succ, List.set_cons_zero, List.set_cons_succ, List.dropLast_cons_cons, List.dropLast_singleton, List.getLast?_cons_cons, List.getLast?_singleton, List.cons_append, List.nil_append, List.append_nil, List.reverse_cons, List.reverse_nil, Option.getD_some, Option.getD_none, Option.some.injEq, Option.bind_some, exists_eq_left', exists_eq_left, exists_eq_right, exists_and_left, true_and, and_true, if_true, if_false, reduceCtorEq, reduceIte, Bool.false_eq_true, Bool.false_xor, Bool.true_xor, List.replicate_succ, List.replicate_zero, List.length_cons, List.length_nil, Nat.zero_add, Nat.reduceAdd, Nat.reduceSub, O.d.injEq, D.int.injEq, Res.d.injEq, B.l.injEq, B.d.injEq, D.bl.injEq, D.str.injEq, D.lst.injEq, D.tup.injEq, Nat.zero_le, pfEnds]
        refine ⟨⟨acc, rfl⟩, by decide, ⟨ne, by omega, by omega⟩, fun y hy z hz => ?_⟩
        exact ⟨by omega, by omega, hK _ ⟨_, _, _, _, rfl, .inr rfl, by simp [hl], fun u hu => by
          rcases List.mem_append.mp hu with hu | hu
          · exact hd u hu
          · have hu : u = _ := List.mem_singleton.mp hu
            rw [hu]; exact fin y z hy hz, by omega⟩⟩
      · simp only [IS.sms, IS.sm, IE.sm, IE.sms, IE.smo, pl, List.map_cons, List.map_nil, andW, orW, andT, orT, wisW, srcW, prs, ifsW, wNext, wSeq, wBrk, wCnt, wDrop, wRet, wIfS, wSet, wUnp, wPar, parGo, wFor, wc, w1, w2, waNil, waCons, wN, wTup, wLst, wtv, wtNot, wtAnd, wtOr, Pz.wNot, wAnd, wOr, wIf, wChain, wtCmp, wtChain, wSl, woNo, woE, wIsi, wMth, wApp, wExt, wPop, wDct0, wDct, dspGo, wLc, wiRng1, wiRng2, wiEnum, wtYes, S.mv, fBin, fCmp, retC, ent, Fn.g, zfz_d, zfz_l, zfz_m, zfz_p, zdatO, zdat_d, zdat_l, zdat_m, zlook_d, zlook_p, zofz_d, zofz_p, zfzO, zfz, zconsO, zlooks_nil, zlooks_cons, zfzs_nil, zfzs_cons, zwvO_d, zwvO_l, zwvO_m, zwv, zset, zput_d, zput_l, zput_m, zputO, zput_p, zpush_d, zpush_l, zpush_m, zpushO, zpush_p, zmvs_nil, zmvs_cons, zout_d, zout_l, zout_m, zoutO_d, zoutO_l, zoutO_m, zout_p, ztru_non, ztru_bl, ztru_int, ztru_str, ztru_lst, ztru_tup, ztru_dic, zadd_i, zadd_s, zadd_l, zadd_t, zsub, zmul_i, zmul_l, zmul_s, zmul_t, zdiv, zmod, zpow, zneg, zlt_i, zle_i, zgt_i, zge_i, zlt_s, zle_s, zgt_s, zge_s, zeq_i, zne_i, zeq_s, zne_s, zis, zis_b, zix_l, zix_t, zix_s, zsl_l, zsl_t, zsl_s, zlen_s, zlen_l, zlen_t, zlen_d, ztup_l, ztup_t, zlist_l, zlist_t, zmax, zmin, zall, zany, zsum, zsorted, zrepr, zset_nm, zset_tt, zset_tl, zsets_nil, zsets_cons, zseqK_l, zseqK_t, zseqK_s, zseq, zcall_pu, zdkK, zcall_dk, zuns_nil, zuns_cons, zbkO_d, zbkO_l, zbkO_m, zbkO_n, zbkO_0, zback_nil, zback_cons, zat0, zat1, zat2, zat3, zm_split, zm_words, zm_join_l, zm_join_t, zm_upper, zm_lower, D.tyS, Mth.ty, List.getElem?_cons_zero, List.getElem?_cons_succ, List.set_cons_zero, List.set_cons_succ, List.dropLast_cons_cons, List.dropLast_singleton, List.getLast?_cons_cons, List.getLast?_singleton, List.cons_append, List.nil_append, List.append_nil, List.reverse_cons, List.reverse_nil, Option.getD_some, Option.getD_none, Option.some.injEq, Option.bind_some, exists_eq_left', exists_eq_left, exists_eq_right, exists_and_left, true_and, and_true, if_true, if_false, reduceCtorEq, reduceIte, Bool.false_eq_true, Bool.false_xor, Bool.true_xor, List.replicate_succ, List.replicate_zero, List.length_cons, List.length_nil, Nat.zero_add, Nat.reduceAdd, Nat.reduceSub, O.d.injEq, D.int.injEq, Res.d.injEq, B.l.injEq, B.d.injEq, D.bl.injEq, D.str.injEq, D.lst.injEq, D.tup.injEq, Nat.zero_le, pfEnds]
        refine ⟨⟨acc, rfl⟩, by decide, ⟨ne, by omega, by omega⟩, fun y hy z hz => ?_⟩
        exact ⟨by omega, by omega, hK _ ⟨_, _, _, _, rfl, .inr rfl, by simp [hl], fun u hu => by
          rcases List.mem_append.mp hu with hu | hu
          · exact hd u hu
          · have hu : u = _ := List.mem_singleton.mp hu
            rw [hu]; exact fin y z hy hz, by omega⟩⟩
    · subst e
      have fin := hR rs' acc kk (by omega) (by omega) hrs' (by omega) hd (by omega)
      rcases hb with rfl | rfl
      · simp only [IS.sms, IS.sm, IE.sm, IE.sms, IE.smo, pl, List.map_cons, List.map_nil, andW, orW, andT, orT, wisW, srcW, prs, ifsW, wNext, wSeq, wBrk, wCnt, wDrop, wRet, wIfS, wSet, wUnp, wPar, parGo, wFor, wc, w1, w2, waNil, waCons, wN, wTup, wLst, wtv, wtNot, wtAnd, wtOr, Pz.wNot, wAnd, wOr, wIf, wChain, wtCmp, wtChain, wSl, woNo, woE, wIsi, wMth, wApp, wExt, wPop, wDct0, wDct, dspGo, wLc, wiRng1, wiRng2, wiEnum, wtYes, S.mv, fBin, fCmp, retC, ent, Fn.g, zfz_d, zfz_l, zfz_m, zfz_p, zdatO, zdat_d, zdat_l, zdat_m, zlook_d, zlook_p, zofz_d, zofz_p, zfzO, zfz, zconsO, zlooks_nil, zlooks_cons, zfzs_nil, zfzs_cons, zwvO_d, zwvO_l, zwvO_m, zwv, zset, zput_d, zput_l, zput_m, zputO, zput_p, zpush_d, zpush_l, zpush_m, zpushO, zpush_p, zmvs_nil, zmvs_cons, zout_d, zout_l, zout_m, zoutO_d, zoutO_l, zoutO_m, zout_p, ztru_non, ztru_bl, ztru_int, ztru_str, ztru_lst, ztru_tup, ztru_dic, zadd_i, zadd_s, zadd_l, zadd_t, zsub, zmul_i, zmul_l, zmul_s, zmul_t, zdiv, zmod, zpow, zneg, zlt_i, zle_i, zgt_i, zge_i, zlt_s, zle_s, zgt_s, zge_s, zeq_i, zne_i, zeq_s, zne_s, zis, zis_b, zix_l, zix_t, zix_s, zsl_l, zsl_t, zsl_s, zlen_s, zlen_l, zlen_t, zlen_d, ztup_l, ztup_t, zlist_l, zlist_t, zmax, zmin, zall, zany, zsum, zsorted, zrepr, zset_nm, zset_tt, zset_tl, zsets_nil, zsets_cons, zseqK_l, zseqK_t, zseqK_s, zseq, zcall_pu, zdkK, zcall_dk, zuns_nil, zuns_cons, zbkO_d, zbkO_l, zbkO_m, zbkO_n, zbkO_0, zback_nil, zback_cons, zat0, zat1, zat2, zat3, zm_split, zm_words, zm_join_l, zm_join_t, zm_upper, zm_lower, D.tyS, Mth.ty, List.getElem?_cons_zero, List.getElem?_cons_succ, List.set_cons_zero, List.set_cons_succ, List.dropLast_cons_cons, List.dropLast_singleton, List.getLast?_cons_cons, List.getLast?_singleton, List.cons_append, List.nil_append, List.append_nil, List.reverse_cons, List.reverse_nil, Option.getD_some, Option.getD_none, Option.some.injEq, Option.bind_some, exists_eq_left', exists_eq_left, exists_eq_right, exists_and_left, true_and, and_true, if_true, if_false, reduceCtorEq, reduceIte, Bool.false_eq_true, Bool.false_xor, Bool.true_xor, List.replicate_succ, List.replicate_zero, List.length_cons, List.length_nil, Nat.zero_add, Nat.reduceAdd, Nat.reduceSub, O.d.injEq, D.int.injEq, Res.d.injEq, B.l.injEq, B.d.injEq, D.bl.injEq, D.str.injEq, D.lst.injEq, D.tup.injEq, Nat.zero_le]
        exact ⟨by decide, fin⟩
      · simp only [IS.sms, IS.sm, IE.sm, IE.sms, IE.smo, pl, List.map_cons, List.map_nil, andW, orW, andT, orT, wisW, srcW, prs, ifsW, wNext, wSeq, wBrk, wCnt, wDrop, wRet, wIfS, wSet, wUnp, wPar, parGo, wFor, wc, w1, w2, waNil, waCons, wN, wTup, wLst, wtv, wtNot, wtAnd, wtOr, Pz.wNot, wAnd, wOr, wIf, wChain, wtCmp, wtChain, wSl, woNo, woE, wIsi, wMth, wApp, wExt, wPop, wDct0, wDct, dspGo, wLc, wiRng1, wiRng2, wiEnum, wtYes, S.mv, fBin, fCmp, retC, ent, Fn.g, zfz_d, zfz_l, zfz_m, zfz_p, zdatO, zdat_d, zdat_l, zdat_m, zlook_d, zlook_p, zofz_d, zofz_p, zfzO, zfz, zconsO, zlooks_nil, zlooks_cons, zfzs_nil, zfzs_cons, zwvO_d, zwvO_l, zwvO_m, zwv, zset, zput_d, zput_l, zput_m, zputO, zput_p, zpush_d, zpush_l, zpush_m, zpushO, zpush_p, zmvs_nil, zmvs_cons, zout_d, zout_l, zout_m, zoutO_d, zoutO_l, zoutO_m, zout_p, ztru_non, ztru_bl, ztru_int, ztru_str, ztru_lst, ztru_tup, ztru_dic, zadd_i, zadd_s, zadd_l, zadd_t, zsub, zmul_i, zmul_l, zmul_s, zmul_t, zdiv, zmod, zpow, zneg, zlt_i, zle_i, zgt_i, zge_i, zlt_s, zle_s, zgt_s, zge_s, zeq_i, zne_i, zeq_s, zne_s, zis, zis_b, zix_l, zix_t, zix_s, zsl_l, zsl_t, zsl_s, zlen_s, zlen_l, zlen_t, zlen_d, ztup_l, ztup_t, zlist_l, zlist_t, zmax, zmin, zall, zany, zsum, zsorted, zrepr, zset_nm, zset_tt, zset_tl, zsets_nil, zsets_cons, zseqK_l, zseqK_t, zseqK_s, zseq, zcall_pu, zdkK, zcall_dk, zuns_nil, zuns_cons, zbkO_d, zbkO_l, zbkO_m, zbkO_n, zbkO_0, zback_nil, zback_cons, zat0, zat1, zat2, zat3, zm_split, zm_words, zm_join_l, zm_join_t, zm_upper, zm_lower, D.tyS, Mth.ty, List.getElem?_cons_zero, List.getElem?_cons_succ, List.set_cons_zero, List.set_cons_succ, List.dropLast_cons_cons, List.dropLast_singleton, List.getLast?_cons_cons, List.getLast?_singleton, List.cons_append, List.nil_append, List.append_nil, List.reverse_cons, List.reverse_nil, Option.getD_some, Option.getD_none, Option.some.injEq, Option.bind_some, exists_eq_left', exists_eq_left, exists_eq_right, exists_and_left, true_and, and_true, if_true, if_false, reduceCtorEq, reduceIte, Bool.false_eq_true, Bool.false_xor, Bool.true_xor, List.replicate_succ, List.replicate_zero, List.length_cons, List.length_nil, Nat.zero_add, Nat.reduceAdd, Nat.reduceSub, O.d.injEq, D.int.injEq, Res.d.injEq, B.l.injEq, B.d.injEq, D.bl.injEq, D.str.injEq, D.lst.injEq, D.tup.injEq, Nat.zero_le]
        exact ⟨by decide, fin⟩
/-- a number of a drawn stand -/
def numOk (d : D) : Prop := ∃ i : Int, d = .int i ∧ 0 ≤ i ∧ i ≤ 10 ^ 39
def pfSpot : List D → Nat → (Res → Nat → Prop) → Prop
  | [.tup (.tup rs :: _)], k, R => (rs.length ≤ 1000 ∧ k + 2000 < 1099511627776) ∧ ∀ (xs : List D) (k' : Nat), xs.length = rs.length → (∀ d ∈ xs, numOk d) → k' = k + 1 + rs.length → R (.d (.tup xs)) k'
  | _, _, _ => False
theorem k_spot (F : Fs) (hF : F.fn "_law_draw" = some (.dk pfDraw)) (hP : F.fn "_law_pick" = some (.dk pfPick)) : Keeps F N_law_spot b_law_spot (.dk pfSpot) := by
  intro p c ds k R h
  have sz : sizeLine = 16777216 := sizeLine_eq
  match ds, h with
  | [.tup (.tup rs :: rest)], ⟨⟨h1, h2⟩, hR⟩ =>
    simp only [N_law_spot, b_law_spot, IS.sms, IS.sm, IE.sm, IE.sms, IE.smo, pl, List.map_cons, List.map_nil, andW, orW, andT, orT, wisW, srcW, prs, ifsW, wNext, wSeq, wBrk, wCnt, wDrop, wRet, wIfS, wSet, wUnp, wPar, parGo, wFor, wc, w1, w2, waNil, waCons, wN, wTup, wLst, wtv, wtNot, wtAnd, wtOr, Pz.wNot, wAnd, wOr, wIf, wChain, wtCmp, wtChain, wSl, woNo, woE, wIsi, wMth, wApp, wExt, wPop, wDct0, wDct, dspGo, wLc, wiRng1, wiRng2, wiEnum, wtYes, S.mv, fBin, fCmp, retC, ent, Fn.g, zfz_d, zfz_l, zfz_m, zfz_p, zdatO, zdat_d, zdat_l, zdat_m, zlook_d, zlook_p, zofz_d, zofz_p, zfzO, zfz, zconsO, zlooks_nil, zlooks_cons, zfzs_nil, zfzs_cons, zwvO_d, zwvO_l, zwvO_m, zwv, zset, zput_d, zput_l, zput_m, zputO, zput_p, zpush_d, zpush_l, zpush_m, zpushO, zpush_p, zmvs_nil, zmvs_cons, zout_d, zout_l, zout_m, zoutO_d, zoutO_l, zoutO_m, zout_p, ztru_non, ztru_bl, ztru_int, ztru_str, ztru_lst, ztru_tup, ztru_dic, zadd_i, zadd_s, zadd_l, zadd_t, zsub, zmul_i, zmul_l, zmul_s, zmul_t, zdiv, zmod, zpow, zneg, zlt_i, zle_i, zgt_i, zge_i, zlt_s, zle_s, zgt_s, zge_s, zeq_i, zne_i, zeq_s, zne_s, zis, zis_b, zix_l, zix_t, zix_s, zsl_l, zsl_t, zsl_s, zlen_s, zlen_l, zlen_t, zlen_d, ztup_l, ztup_t, zlist_l, zlist_t, zmax, zmin, zall, zany, zsum, zsorted, zrepr, zset_nm, zset_tt, zset_tl, zsets_nil, zsets_cons, zseqK_l, zseqK_t, zseqK_s, zseq, zcall_pu, zdkK, zcall_dk, zuns_nil, zuns_cons, zbkO_d, zbkO_l, zbkO_m, zbkO_n, zbkO_0, zback_nil, zback_cons, zat0, zat1, zat2, zat3, zm_split, zm_words, zm_join_l, zm_join_t, zm_upper, zm_lower, D.tyS, Mth.ty, List.getElem?_cons_zero, List.getElem?_cons_succ, List.set_cons_zero, List.set_cons_succ, List.dropLast_cons_cons, List.dropLast_singleton, List.getLast?_cons_cons, List.getLast?_singleton, List.cons_append, List.nil_append, List.append_nil, List.reverse_cons, List.reverse_nil, Option.getD_some, Option.getD_none, Option.some.injEq, Option.bind_some, exists_eq_left', exists_eq_left, exists_eq_right, exists_and_left, true_and, and_true, if_true, if_false, reduceCtorEq, reduceIte, Bool.false_eq_true, Bool.false_xor, Bool.true_xor, List.replicate_succ, List.replicate_zero, List.length_cons, List.length_nil, Nat.zero_add, Nat.reduceAdd, Nat.reduceSub, O.d.injEq, D.int.injEq, Res.d.injEq, B.l.injEq, B.d.injEq, D.bl.injEq, D.str.injEq, D.lst.injEq, D.tup.injEq, Nat.zero_le, hF, hP, pfDraw]
    refine ⟨⟨by decide, by decide, by omega⟩, fun i i0 i1 => ⟨⟨by decide, by decide, by decide⟩, by omega, ?_⟩⟩
    have pool : ∀ d ∈ [D.int 0, .int 0, .int 1, .int 2, .int 3, .int i, .int (10 ^ Int.toNat 39)], numOk d := fun d hd => by
      simp only [List.mem_cons, List.not_mem_nil, or_false] at hd
      have e : Int.toNat 39 = 39 := rfl
      rw [e] at hd
      rcases hd with rfl | rfl | rfl | rfl | rfl | rfl | rfl
      · exact ⟨_, rfl, by decide, by decide⟩
      · exact ⟨_, rfl, by decide, by decide⟩
      · exact ⟨_, rfl, by decide, by decide⟩
      · exact ⟨_, rfl, by decide, by decide⟩
      · exact ⟨_, rfl, by decide, by decide⟩
      · exact ⟨_, rfl, i0, by omega⟩
      · exact ⟨_, rfl, by decide, by decide⟩
    have hne : [D.int 0, .int 0, .int 1, .int 2, .int 3, .int i, .int (10 ^ Int.toNat 39)] ≠ [] := by simp
    have hsl : [D.int 0, .int 0, .int 1, .int 2, .int 3, .int i, .int (10 ^ Int.toNat 39)].length = 7 := rfl
    generalize [D.int 0, .int 0, .int 1, .int 2, .int 3, .int i, .int (10 ^ Int.toNat 39)] = some' at pool hne hsl ⊢
    refine lcg_inv (fun j acc ρ => ∃ (b2 b3 : Option B) (kk : Nat), ρ = ⟨[some (.d (.cst (.ref p))), some (.d (.tup (.tup rs :: rest))), b2, b3], kk⟩ ∧ (b2 = some (.l some') ∨ b2 = some (.d (.lst some'))) ∧ acc.length = j ∧ (∀ d ∈ acc, numOk d) ∧ kk = k + 1 + j)
      ⟨_, none, _, rfl, .inl rfl, rfl, (fun d hd => by cases hd), rfl⟩ (fun j x acc ρ Kc hx ⟨b2, b3, kk, e, hb, hl, hd, hk⟩ hK => ?_) fun acc ρ ⟨b2, b3, kk, e, hb, hl, hd, hk⟩ => ?_
    · subst e
      have hj := (List.getElem?_eq_some_iff.mp hx).1
      rcases hb with rfl | rfl
      · simp only [lcStep, IS.sms, IS.sm, IE.sm, IE.sms, IE.smo, pl, List.map_cons, List.map_nil, andW, orW, andT, orT, wisW, srcW, prs, ifsW, wNext, wSeq, wBrk, wCnt, wDrop, wRet, wIfS, wSet, wUnp, wPar, parGo, wFor, wc, w1, w2, waNil, waCons, wN, wTup, wLst, wtv, wtNot, wtAnd, wtOr, Pz.wNot, wAnd, wOr, wIf, wChain, wtCmp, wtChain, wSl, woNo, woE, wIsi, wMth, wApp, wExt, wPop, wDct0, wDct, dspGo, wLc, wiRng1, wiRng2, wiEnum, wtYes, S.mv, fBin, fCmp, retC, ent, Fn.g, zfz_d, zfz_l, zfz_m, zfz_p, zdatO, zdat_d, zdat_l, zdat_m, zlook_d, zlook_p, zofz_d, zofz_p, zfzO, zfz, zconsO, zlooks_nil, zlooks_cons, zfzs_nil, zfzs_cons, zwvO_d, zwvO_l, zwvO_m, zwv, zset, zput_d, zput_l, zput_m, zputO, zput_p, zpush_d, zpush_l, zpush_m, zpushO, zpush_p, zmvs_nil, zmvs_cons, zout_d, zout_l, zout_m, zoutO_d, zoutO_l, zoutO_m, zout_p, ztru_non, ztru_bl, ztru_int, ztru_str, ztru_lst, ztru_tup, ztru_dic, zadd_i, zadd_s, zadd_l, zadd_t, zsub, zmul_i, zmul_l, zmul_s, zmul_t, zdiv, zmod, zpow, zneg, zlt_i, zle_i, zgt_i, zge_i, zlt_s, zle_s, zgt_s, zge_s, zeq_i, zne_i, zeq_s, zne_s, zis, zis_b, zix_l, zix_t, zix_s, zsl_l, zsl_t, zsl_s, zlen_s, zlen_l, zlen_t, zlen_d, ztup_l, ztup_t, zlist_l, zlist_t, zmax, zmin, zall, zany, zsum, zsorted, zrepr, zset_nm, zset_tt, zset_tl, zsets_nil, zsets_cons, zseqK_l, zseqK_t, zseqK_s, zseq, zcall_pu, zdkK, zcall_dk, zuns_nil, zuns_cons, zbkO_d, zbkO_l, zbkO_m, zbkO_n, zbkO_0, zback_nil, zback_cons, zat0, zat1, zat2, zat3, zm_split, zm_words, zm_join_l, zm_join_t, zm_upper, zm_lower, D.tyS, Mth.ty, List.getElem?_cons_zero, List.getElem?_cons_succ, List.set_cons_zero, List.set_cons_succ, List.dropLast_cons_cons, List.dropLast_singleton, List.getLast?_cons_cons, List.getLast?_singleton, List.cons_append, List.nil_append, List.append_nil, List.reverse_cons, List.reverse_nil, Option.getD_some, Option.getD_none, Option.some.injEq, Option.bind_some, exists_eq_left', exists_eq_left, exists_eq_right, exists_and_left, true_and, and_true, if_true, if_false, reduceCtorEq, reduceIte, Bool.false_eq_true, Bool.false_xor, Bool.true_xor, List.replicate_succ, List.replicate_zero, List.length_cons, List.length_nil, Nat.zero_add, Nat.reduceAdd, Nat.reduceSub, O.d.injEq, D.int.injEq, Res.d.injEq, B.l.injEq, B.d.injEq, D.bl.injEq, D.str.injEq, D.lst.injEq, D.tup.injEq, Nat.zero_le, pfPick]
        refine ⟨⟨hne, by omega, by omega⟩, fun y hy => ⟨by omega, hK _ _ ⟨_, _, _, rfl, .inr rfl, by simp [hl], fun u hu => ?_, by omega⟩⟩⟩
        rcases List.mem_append.mp hu with hu | hu
        · exact hd u hu
        · rw [List.mem_singleton.mp hu]; exact pool y hy
      · simp only [lcStep, IS.sms, IS.sm, IE.sm, IE.sms, IE.smo, pl, List.map_cons, List.map_nil, andW, orW, andT, orT, wisW, srcW, prs, ifsW, wNext, wSeq, wBrk, wCnt, wDrop, wRet, wIfS, wSet, wUnp, wPar, parGo, wFor, wc, w1, w2, waNil, waCons, wN, wTup, wLst, wtv, wtNot, wtAnd, wtOr, Pz.wNot, wAnd, wOr, wIf, wChain, wtCmp, wtChain, wSl, woNo, woE, wIsi, wMth, wApp, wExt, wPop, wDct0, wDct, dspGo, wLc, wiRng1, wiRng2, wiEnum, wtYes, S.mv, fBin, fCmp, retC, ent, Fn.g, zfz_d, zfz_l, zfz_m, zfz_p, zdatO, zdat_d, zdat_l, zdat_m, zlook_d, zlook_p, zofz_d, zofz_p, zfzO, zfz, zconsO, zlooks_nil, zlooks_cons, zfzs_nil, zfzs_cons, zwvO_d, zwvO_l, zwvO_m, zwv, zset, zput_d, zput_l, zput_m, zputO, zput_p, zpush_d, zpush_l, zpush_m, zpushO, zpush_p, zmvs_nil, zmvs_cons, zout_d, zout_l, zout_m, zoutO_d, zoutO_l, zoutO_m, zout_p, ztru_non, ztru_bl, ztru_int, ztru_str, ztru_lst, ztru_tup, ztru_dic, zadd_i, zadd_s, zadd_l, zadd_t, zsub, zmul_i, zmul_l, zmul_s, zmul_t, zdiv, zmod, zpow, zneg, zlt_i, zle_i, zgt_i, zge_i, zlt_s, zle_s, zgt_s, zge_s, zeq_i, zne_i, zeq_s, zne_s, zis, zis_b, zix_l, zix_t, zix_s, zsl_l, zsl_t, zsl_s, zlen_s, zlen_l, zlen_t, zlen_d, ztup_l, ztup_t, zlist_l, zlist_t, zmax, zmin, zall, zany, zsum, zsorted, zrepr, zset_nm, zset_tt, zset_tl, zsets_nil, zsets_cons, zseqK_l, zseqK_t, zseqK_s, zseq, zcall_pu, zdkK, zcall_dk, zuns_nil, zuns_cons, zbkO_d, zbkO_l, zbkO_m, zbkO_n, zbkO_0, zback_nil, zback_cons, zat0, zat1, zat2, zat3, zm_split, zm_words, zm_join_l, zm_join_t, zm_upper, zm_lower, D.tyS, Mth.ty, List.getElem?_cons_zero, List.getElem?_cons_succ, List.set_cons_zero, List.set_cons_succ, List.dropLast_cons_cons, List.dropLast_singleton, List.getLast?_cons_cons, List.getLast?_singleton, List.cons_append, List.nil_append, List.append_nil, List.reverse_cons, List.reverse_nil, Option.getD_some, Option.getD_none, Option.some.injEq, Option.bind_some, exists_eq_left', exists_eq_left, exists_eq_right, exists_and_left, true_and, and_true, if_true, if_false, reduceCtorEq, reduceIte, Bool.false_eq_true, Bool.false_xor, Bool.true_xor, List.replicate_succ, List.replicate_zero, List.length_cons, List.length_nil, Nat.zero_add, Nat.reduceAdd, Nat.reduceSub, O.d.injEq, D.int.injEq, Res.d.injEq, B.l.injEq, B.d.injEq, D.bl.injEq, D.str.injEq, D.lst.injEq, D.tup.injEq, Nat.zero_le, pfPick]
        refine ⟨⟨hne, by omega, by omega⟩, fun y hy => ⟨by omega, hK _ _ ⟨_, _, _, rfl, .inr rfl, by simp [hl], fun u hu => ?_, by omega⟩⟩⟩
        rcases List.mem_append.mp hu with hu | hu
        · exact hd u hu
        · rw [List.mem_singleton.mp hu]; exact pool y hy
    · subst e
      simp only [IS.sms, IS.sm, IE.sm, IE.sms, IE.smo, pl, List.map_cons, List.map_nil, andW, orW, andT, orT, wisW, srcW, prs, ifsW, wNext, wSeq, wBrk, wCnt, wDrop, wRet, wIfS, wSet, wUnp, wPar, parGo, wFor, wc, w1, w2, waNil, waCons, wN, wTup, wLst, wtv, wtNot, wtAnd, wtOr, Pz.wNot, wAnd, wOr, wIf, wChain, wtCmp, wtChain, wSl, woNo, woE, wIsi, wMth, wApp, wExt, wPop, wDct0, wDct, dspGo, wLc, wiRng1, wiRng2, wiEnum, wtYes, S.mv, fBin, fCmp, retC, ent, Fn.g, zfz_d, zfz_l, zfz_m, zfz_p, zdatO, zdat_d, zdat_l, zdat_m, zlook_d, zlook_p, zofz_d, zofz_p, zfzO, zfz, zconsO, zlooks_nil, zlooks_cons, zfzs_nil, zfzs_cons, zwvO_d, zwvO_l, zwvO_m, zwv, zset, zput_d, zput_l, zput_m, zputO, zput_p, zpush_d, zpush_l, zpush_m, zpushO, zpush_p, zmvs_nil, zmvs_cons, zout_d, zout_l, zout_m, zoutO_d, zoutO_l, zoutO_m, zout_p, ztru_non, ztru_bl, ztru_int, ztru_str, ztru_lst, ztru_tup, ztru_dic, zadd_i, zadd_s, zadd_l, zadd_t, zsub, zmul_i, zmul_l, zmul_s, zmul_t, zdiv, zmod, zpow, zneg, zlt_i, zle_i, zgt_i, zge_i, zlt_s, zle_s, zgt_s, zge_s, zeq_i, zne_i, zeq_s, zne_s, zis, zis_b, zix_l, zix_t, zix_s, zsl_l, zsl_t, zsl_s, zlen_s, zlen_l, zlen_t, zlen_d, ztup_l, ztup_t, zlist_l, zlist_t, zmax, zmin, zall, zany, zsum, zsorted, zrepr, zset_nm, zset_tt, zset_tl, zsets_nil, zsets_cons, zseqK_l, zseqK_t, zseqK_s, zseq, zcall_pu, zdkK, zcall_dk, zuns_nil, zuns_cons, zbkO_d, zbkO_l, zbkO_m, zbkO_n, zbkO_0, zback_nil, zback_cons, zat0, zat1, zat2, zat3, zm_split, zm_words, zm_join_l, zm_join_t, zm_upper, zm_lower, D.tyS, Mth.ty, List.getElem?_cons_zero, List.getElem?_cons_succ, List.set_cons_zero, List.set_cons_succ, List.dropLast_cons_cons, List.dropLast_singleton, List.getLast?_cons_cons, List.getLast?_singleton, List.cons_append, List.nil_append, List.append_nil, List.reverse_cons, List.reverse_nil, Option.getD_some, Option.getD_none, Option.some.injEq, Option.bind_some, exists_eq_left', exists_eq_left, exists_eq_right, exists_and_left, true_and, and_true, if_true, if_false, reduceCtorEq, reduceIte, Bool.false_eq_true, Bool.false_xor, Bool.true_xor, List.replicate_succ, List.replicate_zero, List.length_cons, List.length_nil, Nat.zero_add, Nat.reduceAdd, Nat.reduceSub, O.d.injEq, D.int.injEq, Res.d.injEq, B.l.injEq, B.d.injEq, D.bl.injEq, D.str.injEq, D.lst.injEq, D.tup.injEq, Nat.zero_le]
      exact hR acc kk hl hd hk
end Q

set_option maxRecDepth 100000
set_option maxHeartbeats 4000000
namespace Q
open PySem L2 Pz
/-- an item of a stand, changed or not -/
def item (d : D) : Prop := Sm 43 10 3 d
theorem cutD_mem {α : Type} {xs : List α} {lo hi : Option Int} {x : α} (h : x ∈ cutD xs lo hi) : x ∈ xs := List.mem_of_mem_drop (List.mem_of_mem_take h)
theorem cutD_len {α : Type} {xs : List α} {lo hi : Option Int} : (cutD xs lo hi).length ≤ xs.length := by
  unfold cutD
  rw [List.length_take, List.length_drop]; omega
def pfChanged : List D → Nat → (Res → Nat → Prop) → Prop
  | [.tup xs], k, R => (xs.length ≤ 1000 ∧ (∀ x ∈ xs, item x) ∧ k + 10 < 1099511627776) ∧ ∀ (ys : List D) (k' : Nat), ys.length ≤ 2 * xs.length + 1 → (∀ y ∈ ys, item y) → k' ≤ k + 4 → R (.d (.tup ys)) k' ∧ R (.l ys) k'
  | _, _, _ => False
theorem k_changed (F : Fs) (hF : F.fn "_law_draw" = some (.dk pfDraw)) (hP : F.fn "_law_pick" = some (.dk pfPick)) : Keeps F N_law_changed b_law_changed (.dk pfChanged) := by
  intro p c ds k R h
  have sz : sizeLine = 16777216 := sizeLine_eq
  match ds, h with
  | [.tup xs], ⟨⟨h1, hx, h2⟩, hR⟩ =>
    simp only [N_law_changed, b_law_changed, IS.sms, IS.sm, IE.sm, IE.sms, IE.smo, pl, List.map_cons, List.map_nil, andW, orW, andT, orT, wisW, srcW, prs, ifsW, wNext, wSeq, wBrk, wCnt, wDrop, wRet, wIfS, wSet, wUnp, wPar, parGo, wFor, wc, w1, w2, waNil, waCons, wN, wTup, wLst, wtv, wtNot, wtAnd, wtOr, Pz.wNot, wAnd, wOr, wIf, wChain, wtCmp, wtChain, wSl, woNo, woE, wIsi, wMth, wApp, wExt, wPop, wDct0, wDct, dspGo, wLc, wiRng1, wiRng2, wiEnum, wtYes, S.mv, fBin, fCmp, retC, ent, Fn.g, zfz_d, zfz_l, zfz_m, zfz_p, zdatO, zdat_d, zdat_l, zdat_m, zlook_d, zlook_p, zofz_d, zofz_p, zfzO, zfz, zconsO, zlooks_nil, zlooks_cons, zfzs_nil, zfzs_cons, zwvO_d, zwvO_l, zwvO_m, zwv, zset, zput_d, zput_l, zput_m, zputO, zput_p, zpush_d, zpush_l, zpush_m, zpushO, zpush_p, zmvs_nil, zmvs_cons, zout_d, zout_l, zout_m, zoutO_d, zoutO_l, zoutO_m, zout_p, ztru_non, ztru_bl, ztru_int, ztru_str, ztru_lst, ztru_tup, ztru_dic, zadd_i, zadd_s, zadd_l, zadd_t, zsub, zmul_i, zmul_l, zmul_s, zmul_t, zdiv, zmod, zpow, zneg, zlt_i, zle_i, zgt_i, zge_i, zlt_s, zle_s, zgt_s, zge_s, zeq_i, zne_i, zeq_s, zne_s, zis, zis_b, zix_l, zix_t, zix_s, zsl_l, zsl_t, zsl_s, zlen_s, zlen_l, zlen_t, zlen_d, ztup_l, ztup_t, zlist_l, zlist_t, zmax, zmin, zall, zany, zsum, zsorted, zrepr, zset_nm, zset_tt, zset_tl, zsets_nil, zsets_cons, zseqK_l, zseqK_t, zseqK_s, zseq, zcall_pu, zdkK, zcall_dk, zuns_nil, zuns_cons, zbkO_d, zbkO_l, zbkO_m, zbkO_n, zbkO_0, zback_nil, zback_cons, zat0, zat1, zat2, zat3, zm_split, zm_words, zm_join_l, zm_join_t, zm_upper, zm_lower, D.tyS, Mth.ty, List.getElem?_cons_zero, List.getElem?_cons_succ, List.set_cons_zero, List.set_cons_succ, List.dropLast_cons_cons, List.dropLast_singleton, List.getLast?_cons_cons, List.getLast?_singleton, List.cons_append, List.nil_append, List.append_nil, List.reverse_cons, List.reverse_nil, Option.getD_some, Option.getD_none, Option.some.injEq, Option.bind_some, exists_eq_left', exists_eq_left, exists_eq_right, exists_and_left, true_and, and_true, if_true, if_false, reduceCtorEq, reduceIte, Bool.false_eq_true, Bool.false_xor, Bool.true_xor, List.replicate_succ, List.replicate_zero, List.length_cons, List.length_nil, Nat.zero_add, Nat.reduceAdd, Nat.reduceSub, O.d.injEq, D.int.injEq, Res.d.injEq, B.l.injEq, B.d.injEq, D.bl.injEq, D.str.injEq, D.lst.injEq, D.tup.injEq, Nat.zero_le, hF, hP, pfDraw]
    refine ⟨⟨by omega, by omega, by omega⟩, fun i i0 i1 => ⟨⟨by decide, by decide, by omega⟩, fun w w0 w1 => ?_⟩⟩
    have hcut : ∀ lo hi, ∀ y ∈ cutD xs lo hi, item y := fun lo hi y hy => hx y (cutD_mem hy)
    have happ : ∀ {as bs : List D}, (∀ y ∈ as, item y) → (∀ y ∈ bs, item y) → ∀ y ∈ as ++ bs, item y := fun h g y hy => (List.mem_append.mp hy).elim (h y) (g y)
    have hc1 : ∀ lo hi, (cutD xs lo hi).length ≤ xs.length := fun _ _ => cutD_len
    have hone : ∀ {u : D}, item u → ∀ y ∈ [u], item y := fun h y hy => by rw [List.mem_singleton.mp hy]; exact h
    simp only [decide_eq_true_eq]
    split
    · refine ⟨by have := hc1 none (some i); have := hc1 (some (i + 1)) none; omega, (hR _ _ ?_ (happ (hcut _ _) (hcut _ _)) (by omega)).1⟩
      rw [List.length_append]
      have := hc1 none (some i); have := hc1 (some (i + 1)) none; omega
    · split
      · refine ⟨⟨by decide, by decide, by omega⟩, fun j j0 j1 => ⟨by omega, ?_, ?_, (hR _ _ ?_ (happ (happ (hcut _ _) (hone (Sm.int (by decide) (by omega) (by omega)))) (hcut _ _)) (by omega)).1⟩⟩
        · have := hc1 none (some i); omega
        · rw [List.length_append, List.length_singleton]
          have := hc1 none (some i); have := hc1 (some i) none; omega
        · rw [List.length_append, List.length_append, List.length_singleton]
          have := hc1 none (some i); have := hc1 (some i) none; omega
      · split
        · exact (hR xs _ (by omega) hx (by omega)).2
        · split
          · exact ⟨by omega, (hR (xs ++ xs) _ (by rw [List.length_append]; omega) (happ hx hx) (by omega)).1⟩
          · refine ⟨by omega, by omega, _, rfl, ⟨by decide, by decide, by decide⟩, ⟨by decide, by decide, by decide⟩, by omega, ?_⟩
            have hpool : ∀ u ∈ [D.int (-1), D.int 0, D.int 1, D.bl true, D.bl false, D.non, D.str (Str.ofString "0"), D.str (Str.ofString ""), D.tup [], D.tup [D.int 0], D.lst [D.int 0], D.dic [] [],
                D.dic (mrgD [(Sum.inl 0, D.int 0)] [] []).1 (mrgD [(Sum.inl 0, D.int 0)] [] []).2, D.int (10 ^ Int.toNat 39), D.int (1 - 10 ^ Int.toNat 40)], item u := fun u hu => by
              simp only [List.mem_cons, List.not_mem_nil, or_false] at hu
              rcases hu with rfl | rfl | rfl | rfl | rfl | rfl | rfl | rfl | rfl | rfl | rfl | rfl | rfl | rfl | rfl
              · exact Sm.int (by decide) (by decide) (by decide)
              · exact Sm.int (by decide) (by decide) (by decide)
              · exact Sm.int (by decide) (by decide) (by decide)
              · exact Sm.bl
              · exact Sm.bl
              · exact Sm.non
              · exact ⟨rfl, by decide +kernel, by decide +kernel, by decide +kernel, by decide +kernel⟩
              · exact ⟨rfl, by decide +kernel, by decide +kernel, by decide +kernel, by decide +kernel⟩
              · exact ⟨rfl, by decide +kernel, by decide +kernel, by decide +kernel, by decide +kernel⟩
              · exact ⟨rfl, by decide +kernel, by decide +kernel, by decide +kernel, by decide +kernel⟩
              · exact ⟨rfl, by decide +kernel, by decide +kernel, by decide +kernel, by decide +kernel⟩
              · exact ⟨rfl, by decide +kernel, by decide +kernel, by decide +kernel, by decide +kernel⟩
              · exact ⟨rfl, by decide +kernel, by decide +kernel, by decide +kernel, by decide +kernel⟩
              · exact Sm.int (by decide) (by decide) (by decide)
              · exact Sm.int (by decide) (by decide) (by decide)
            have hne : [D.int (-1), D.int 0, D.int 1, D.bl true, D.bl false, D.non, D.str (Str.ofString "0"), D.str (Str.ofString ""), D.tup [], D.tup [D.int 0], D.lst [D.int 0], D.dic [] [],
                D.dic (mrgD [(Sum.inl 0, D.int 0)] [] []).1 (mrgD [(Sum.inl 0, D.int 0)] [] []).2, D.int (10 ^ Int.toNat 39), D.int (1 - 10 ^ Int.toNat 40)] ≠ [] := by simp
            have hln : [D.int (-1), D.int 0, D.int 1, D.bl true, D.bl false, D.non, D.str (Str.ofString "0"), D.str (Str.ofString ""), D.tup [], D.tup [D.int 0], D.lst [D.int 0], D.dic [] [],
                D.dic (mrgD [(Sum.inl 0, D.int 0)] [] []).1 (mrgD [(Sum.inl 0, D.int 0)] [] []).2, D.int (10 ^ Int.toNat 39), D.int (1 - 10 ^ Int.toNat 40)].length = 15 := rfl
            generalize [D.int (-1), D.int 0, D.int 1, D.bl true, D.bl false, D.non, D.str (Str.ofString "0"), D.str (Str.ofString ""), D.tup [], D.tup [D.int 0], D.lst [D.int 0], D.dic [] [],
                D.dic (mrgD [(Sum.inl 0, D.int 0)] [] []).1 (mrgD [(Sum.inl 0, D.int 0)] [] []).2, D.int (10 ^ Int.toNat 39), D.int (1 - 10 ^ Int.toNat 40)] = pool at hpool hne hln ⊢
            refine ⟨⟨hne, by omega, by omega⟩, fun u hu => ?_⟩
            simp only [IS.sms, IS.sm, IE.sm, IE.sms, IE.smo, pl, List.map_cons, List.map_nil, andW, orW, andT, orT, wisW, srcW, prs, ifsW, wNext, wSeq, wBrk, wCnt, wDrop, wRet, wIfS, wSet, wUnp, wPar, parGo, wFor, wc, w1, w2, waNil, waCons, wN, wTup, wLst, wtv, wtNot, wtAnd, wtOr, Pz.wNot, wAnd, wOr, wIf, wChain, wtCmp, wtChain, wSl, woNo, woE, wIsi, wMth, wApp, wExt, wPop, wDct0, wDct, dspGo, wLc, wiRng1, wiRng2, wiEnum, wtYes, S.mv, fBin, fCmp, retC, ent, Fn.g, zfz_d, zfz_l, zfz_m, zfz_p, zdatO, zdat_d, zdat_l, zdat_m, zlook_d, zlook_p, zofz_d, zofz_p, zfzO, zfz, zconsO, zlooks_nil, zlooks_cons, zfzs_nil, zfzs_cons, zwvO_d, zwvO_l, zwvO_m, zwv, zset, zput_d, zput_l, zput_m, zputO, zput_p, zpush_d, zpush_l, zpush_m, zpushO, zpush_p, zmvs_nil, zmvs_cons, zout_d, zout_l, zout_m, zoutO_d, zoutO_l, zoutO_m, zout_p, ztru_non, ztru_bl, ztru_int, ztru_str, ztru_lst, ztru_tup, ztru_dic, zadd_i, zadd_s, zadd_l, zadd_t, zsub, zmul_i, zmul_l, zmul_s, zmul_t, zdiv, zmod, zpow, zneg, zlt_i, zle_i, zgt_i, zge_i, zlt_s, zle_s, zgt_s, zge_s, zeq_i, zne_i, zeq_s, zne_s, zis, zis_b, zix_l, zix_t, zix_s, zsl_l, zsl_t, zsl_s, zlen_s, zlen_l, zlen_t, zlen_d, ztup_l, ztup_t, zlist_l, zlist_t, zmax, zmin, zall, zany, zsum, zsorted, zrepr, zset_nm, zset_tt, zset_tl, zsets_nil, zsets_cons, zseqK_l, zseqK_t, zseqK_s, zseq, zcall_pu, zdkK, zcall_dk, zuns_nil, zuns_cons, zbkO_d, zbkO_l, zbkO_m, zbkO_n, zbkO_0, zback_nil, zback_cons, zat0, zat1, zat2, zat3, zm_split, zm_words, zm_join_l, zm_join_t, zm_upper, zm_lower, D.tyS, Mth.ty, List.getElem?_cons_zero, List.getElem?_cons_succ, List.set_cons_zero, List.set_cons_succ, List.dropLast_cons_cons, List.dropLast_singleton, List.getLast?_cons_cons, List.getLast?_singleton, List.cons_append, List.nil_append, List.append_nil, List.reverse_cons, List.reverse_nil, Option.getD_some, Option.getD_none, Option.some.injEq, Option.bind_some, exists_eq_left', exists_eq_left, exists_eq_right, exists_and_left, true_and, and_true, if_true, if_false, reduceCtorEq, reduceIte, Bool.false_eq_true, Bool.false_xor, Bool.true_xor, List.replicate_succ, List.replicate_zero, List.length_cons, List.length_nil, Nat.zero_add, Nat.reduceAdd, Nat.reduceSub, O.d.injEq, D.int.injEq, Res.d.injEq, B.l.injEq, B.d.injEq, D.bl.injEq, D.str.injEq, D.lst.injEq, D.tup.injEq, Nat.zero_le]
            refine ⟨by omega, ?_, ?_, (hR _ _ ?_ (happ (happ (hcut _ _) (hone (hpool u hu))) (hcut _ _)) (by omega)).1⟩
            · have := hc1 none (some i); omega
            · rw [List.length_append, List.length_singleton]
              have := hc1 none (some i); have := hc1 (some (i + 1)) none; omega
            · rw [List.length_append, List.length_append, List.length_singleton]
              have := hc1 none (some i); have := hc1 (some (i + 1)) none; omega
def pfRight : List D → (Res → Prop) → Prop := pfStand
theorem k_right (F : Fs) : Keeps F N_law_is_right b_law_is_right (.pu pfStand) := by
  intro ds R h
  match ds, h with
  | [.tup [.tup rs, dd], t], ⟨⟨h1, h3⟩, h2⟩ =>
    simp only [N_law_is_right, b_law_is_right, IS.sms, IS.sm, IE.sm, IE.sms, IE.smo, pl, List.map_cons, List.map_nil, andW, orW, andT, orT, wisW, srcW, prs, ifsW, wNext, wSeq, wBrk, wCnt, wDrop, wRet, wIfS, wSet, wUnp, wPar, parGo, wFor, wc, w1, w2, waNil, waCons, wN, wTup, wLst, wtv, wtNot, wtAnd, wtOr, Pz.wNot, wAnd, wOr, wIf, wChain, wtCmp, wtChain, wSl, woNo, woE, wIsi, wMth, wApp, wExt, wPop, wDct0, wDct, dspGo, wLc, wiRng1, wiRng2, wiEnum, wtYes, S.mv, fBin, fCmp, retC, ent, Fn.g, zfz_d, zfz_l, zfz_m, zfz_p, zdatO, zdat_d, zdat_l, zdat_m, zlook_d, zlook_p, zofz_d, zofz_p, zfzO, zfz, zconsO, zlooks_nil, zlooks_cons, zfzs_nil, zfzs_cons, zwvO_d, zwvO_l, zwvO_m, zwv, zset, zput_d, zput_l, zput_m, zputO, zput_p, zpush_d, zpush_l, zpush_m, zpushO, zpush_p, zmvs_nil, zmvs_cons, zout_d, zout_l, zout_m, zoutO_d, zoutO_l, zoutO_m, zout_p, ztru_non, ztru_bl, ztru_int, ztru_str, ztru_lst, ztru_tup, ztru_dic, zadd_i, zadd_s, zadd_l, zadd_t, zsub, zmul_i, zmul_l, zmul_s, zmul_t, zdiv, zmod, zpow, zneg, zlt_i, zle_i, zgt_i, zge_i, zlt_s, zle_s, zgt_s, zge_s, zeq_i, zne_i, zeq_s, zne_s, zis, zis_b, zix_l, zix_t, zix_s, zsl_l, zsl_t, zsl_s, zlen_s, zlen_l, zlen_t, zlen_d, ztup_l, ztup_t, zlist_l, zlist_t, zmax, zmin, zall, zany, zsum, zsorted, zrepr, zset_nm, zset_tt, zset_tl, zsets_nil, zsets_cons, zseqK_l, zseqK_t, zseqK_s, zseq, zcall_pu, zdkK, zcall_dk, zuns_nil, zuns_cons, zbkO_d, zbkO_l, zbkO_m, zbkO_n, zbkO_0, zback_nil, zback_cons, zat0, zat1, zat2, zat3, zm_split, zm_words, zm_join_l, zm_join_t, zm_upper, zm_lower, D.tyS, Mth.ty, List.getElem?_cons_zero, List.getElem?_cons_succ, List.set_cons_zero, List.set_cons_succ, List.dropLast_cons_cons, List.dropLast_singleton, List.getLast?_cons_cons, List.getLast?_singleton, List.cons_append, List.nil_append, List.append_nil, List.reverse_cons, List.reverse_nil, Option.getD_some, Option.getD_none, Option.some.injEq, Option.bind_some, exists_eq_left', exists_eq_left, exists_eq_right, exists_and_left, true_and, and_true, if_true, if_false, reduceCtorEq, reduceIte, Bool.false_eq_true, Bool.false_xor, Bool.true_xor, List.replicate_succ, List.replicate_zero, List.length_cons, List.length_nil, Nat.zero_add, Nat.reduceAdd, Nat.reduceSub, O.d.injEq, D.int.injEq, Res.d.injEq, B.l.injEq, B.d.injEq, D.bl.injEq, D.str.injEq, D.lst.injEq, D.tup.injEq, Nat.zero_le]
    refine ⟨h1, ?_⟩
    cases t with
    | tup xs =>
      have hl := h3 xs rfl
      simp only [D.isTy, IS.sms, IS.sm, IE.sm, IE.sms, IE.smo, pl, List.map_cons, List.map_nil, andW, orW, andT, orT, wisW, srcW, prs, ifsW, wNext, wSeq, wBrk, wCnt, wDrop, wRet, wIfS, wSet, wUnp, wPar, parGo, wFor, wc, w1, w2, waNil, waCons, wN, wTup, wLst, wtv, wtNot, wtAnd, wtOr, Pz.wNot, wAnd, wOr, wIf, wChain, wtCmp, wtChain, wSl, woNo, woE, wIsi, wMth, wApp, wExt, wPop, wDct0, wDct, dspGo, wLc, wiRng1, wiRng2, wiEnum, wtYes, S.mv, fBin, fCmp, retC, ent, Fn.g, zfz_d, zfz_l, zfz_m, zfz_p, zdatO, zdat_d, zdat_l, zdat_m, zlook_d, zlook_p, zofz_d, zofz_p, zfzO, zfz, zconsO, zlooks_nil, zlooks_cons, zfzs_nil, zfzs_cons, zwvO_d, zwvO_l, zwvO_m, zwv, zset, zput_d, zput_l, zput_m, zputO, zput_p, zpush_d, zpush_l, zpush_m, zpushO, zpush_p, zmvs_nil, zmvs_cons, zout_d, zout_l, zout_m, zoutO_d, zoutO_l, zoutO_m, zout_p, ztru_non, ztru_bl, ztru_int, ztru_str, ztru_lst, ztru_tup, ztru_dic, zadd_i, zadd_s, zadd_l, zadd_t, zsub, zmul_i, zmul_l, zmul_s, zmul_t, zdiv, zmod, zpow, zneg, zlt_i, zle_i, zgt_i, zge_i, zlt_s, zle_s, zgt_s, zge_s, zeq_i, zne_i, zeq_s, zne_s, zis, zis_b, zix_l, zix_t, zix_s, zsl_l, zsl_t, zsl_s, zlen_s, zlen_l, zlen_t, zlen_d, ztup_l, ztup_t, zlist_l, zlist_t, zmax, zmin, zall, zany, zsum, zsorted, zrepr, zset_nm, zset_tt, zset_tl, zsets_nil, zsets_cons, zseqK_l, zseqK_t, zseqK_s, zseq, zcall_pu, zdkK, zcall_dk, zuns_nil, zuns_cons, zbkO_d, zbkO_l, zbkO_m, zbkO_n, zbkO_0, zback_nil, zback_cons, zat0, zat1, zat2, zat3, zm_split, zm_words, zm_join_l, zm_join_t, zm_upper, zm_lower, D.tyS, Mth.ty, List.getElem?_cons_zero, List.getElem?_cons_succ, List.set_cons_zero, List.set_cons_succ, List.dropLast_cons_cons, List.dropLast_singleton, List.getLast?_cons_cons, List.getLast?_singleton, List.cons_append, List.nil_append, List.append_nil, List.reverse_cons, List.reverse_nil, Option.getD_some, Option.getD_none, Option.some.injEq, Option.bind_some, exists_eq_left', exists_eq_left, exists_eq_right, exists_and_left, true_and, and_true, if_true, if_false, reduceCtorEq, reduceIte, Bool.false_eq_true, Bool.false_xor, Bool.true_xor, List.replicate_succ, List.replicate_zero, List.length_cons, List.length_nil, Nat.zero_add, Nat.reduceAdd, Nat.reduceSub, O.d.injEq, D.int.injEq, Res.d.injEq, B.l.injEq, B.d.injEq, D.bl.injEq, D.str.injEq, D.lst.injEq, D.tup.injEq, Nat.zero_le, Bool.not_true]
      by_cases e : xs.length = rs.length
      · rw [if_neg (by simp [e])]
        refine lc_pure id isCount (fun x hx acc Kc hz hK => ?_) (Nat.le_trans hl (by decide)) ?_
        · have hd := isDL_mem (by simpa [D.isD] using h1) x hx
          simp only [lcStep, IS.sms, IS.sm, IE.sm, IE.sms, IE.smo, pl, List.map_cons, List.map_nil, andW, orW, andT, orT, wisW, srcW, prs, ifsW, wNext, wSeq, wBrk, wCnt, wDrop, wRet, wIfS, wSet, wUnp, wPar, parGo, wFor, wc, w1, w2, waNil, waCons, wN, wTup, wLst, wtv, wtNot, wtAnd, wtOr, Pz.wNot, wAnd, wOr, wIf, wChain, wtCmp, wtChain, wSl, woNo, woE, wIsi, wMth, wApp, wExt, wPop, wDct0, wDct, dspGo, wLc, wiRng1, wiRng2, wiEnum, wtYes, S.mv, fBin, fCmp, retC, ent, Fn.g, zfz_d, zfz_l, zfz_m, zfz_p, zdatO, zdat_d, zdat_l, zdat_m, zlook_d, zlook_p, zofz_d, zofz_p, zfzO, zfz, zconsO, zlooks_nil, zlooks_cons, zfzs_nil, zfzs_cons, zwvO_d, zwvO_l, zwvO_m, zwv, zset, zput_d, zput_l, zput_m, zputO, zput_p, zpush_d, zpush_l, zpush_m, zpushO, zpush_p, zmvs_nil, zmvs_cons, zout_d, zout_l, zout_m, zoutO_d, zoutO_l, zoutO_m, zout_p, ztru_non, ztru_bl, ztru_int, ztru_str, ztru_lst, ztru_tup, ztru_dic, zadd_i, zadd_s, zadd_l, zadd_t, zsub, zmul_i, zmul_l, zmul_s, zmul_t, zdiv, zmod, zpow, zneg, zlt_i, zle_i, zgt_i, zge_i, zlt_s, zle_s, zgt_s, zge_s, zeq_i, zne_i, zeq_s, zne_s, zis, zis_b, zix_l, zix_t, zix_s, zsl_l, zsl_t, zsl_s, zlen_s, zlen_l, zlen_t, zlen_d, ztup_l, ztup_t, zlist_l, zlist_t, zmax, zmin, zall, zany, zsum, zsorted, zrepr, zset_nm, zset_tt, zset_tl, zsets_nil, zsets_cons, zseqK_l, zseqK_t, zseqK_s, zseq, zcall_pu, zdkK, zcall_dk, zuns_nil, zuns_cons, zbkO_d, zbkO_l, zbkO_m, zbkO_n, zbkO_0, zback_nil, zback_cons, zat0, zat1, zat2, zat3, zm_split, zm_words, zm_join_l, zm_join_t, zm_upper, zm_lower, D.tyS, Mth.ty, List.getElem?_cons_zero, List.getElem?_cons_succ, List.set_cons_zero, List.set_cons_succ, List.dropLast_cons_cons, List.dropLast_singleton, List.getLast?_cons_cons, List.getLast?_singleton, List.cons_append, List.nil_append, List.append_nil, List.reverse_cons, List.reverse_nil, Option.getD_some, Option.getD_none, Option.some.injEq, Option.bind_some, exists_eq_left', exists_eq_left, exists_eq_right, exists_and_left, true_and, and_true, if_true, if_false, reduceCtorEq, reduceIte, Bool.false_eq_true, Bool.false_xor, Bool.true_xor, List.replicate_succ, List.replicate_zero, List.length_cons, List.length_nil, Nat.zero_add, Nat.reduceAdd, Nat.reduceSub, O.d.injEq, D.int.injEq, Res.d.injEq, B.l.injEq, B.d.injEq, D.bl.injEq, D.str.injEq, D.lst.injEq, D.tup.injEq, Nat.zero_le, wtv, wtAnd, wtNot, wtCmp]
          refine ⟨hd, ?_⟩
          cases x with
          | int i => simp only [D.isTy, IS.sms, IS.sm, IE.sm, IE.sms, IE.smo, pl, List.map_cons, List.map_nil, andW, orW, andT, orT, wisW, srcW, prs, ifsW, wNext, wSeq, wBrk, wCnt, wDrop, wRet, wIfS, wSet, wUnp, wPar, parGo, wFor, wc, w1, w2, waNil, waCons, wN, wTup, wLst, wtv, wtNot, wtAnd, wtOr, Pz.wNot, wAnd, wOr, wIf, wChain, wtCmp, wtChain, wSl, woNo, woE, wIsi, wMth, wApp, wExt, wPop, wDct0, wDct, dspGo, wLc, wiRng1, wiRng2, wiEnum, wtYes, S.mv, fBin, fCmp, retC, ent, Fn.g, zfz_d, zfz_l, zfz_m, zfz_p, zdatO, zdat_d, zdat_l, zdat_m, zlook_d, zlook_p, zofz_d, zofz_p, zfzO, zfz, zconsO, zlooks_nil, zlooks_cons, zfzs_nil, zfzs_cons, zwvO_d, zwvO_l, zwvO_m, zwv, zset, zput_d, zput_l, zput_m, zputO, zput_p, zpush_d, zpush_l, zpush_m, zpushO, zpush_p, zmvs_nil, zmvs_cons, zout_d, zout_l, zout_m, zoutO_d, zoutO_l, zoutO_m, zout_p, ztru_non, ztru_bl, ztru_int, ztru_str, ztru_lst, ztru_tup, ztru_dic, zadd_i, zadd_s, zadd_l, zadd_t, zsub, zmul_i, zmul_l, zmul_s, zmul_t, zdiv, zmod, zpow, zneg, zlt_i, zle_i, zgt_i, zge_i, zlt_s, zle_s, zgt_s, zge_s, zeq_i, zne_i, zeq_s, zne_s, zis, zis_b, zix_l, zix_t, zix_s, zsl_l, zsl_t, zsl_s, zlen_s, zlen_l, zlen_t, zlen_d, ztup_l, ztup_t, zlist_l, zlist_t, zmax, zmin, zall, zany, zsum, zsorted, zrepr, zset_nm, zset_tt, zset_tl, zsets_nil, zsets_cons, zseqK_l, zseqK_t, zseqK_s, zseq, zcall_pu, zdkK, zcall_dk, zuns_nil, zuns_cons, zbkO_d, zbkO_l, zbkO_m, zbkO_n, zbkO_0, zback_nil, zback_cons, zat0, zat1, zat2, zat3, zm_split, zm_words, zm_join_l, zm_join_t, zm_upper, zm_lower, D.tyS, Mth.ty, List.getElem?_cons_zero, List.getElem?_cons_succ, List.set_cons_zero, List.set_cons_succ, List.dropLast_cons_cons, List.dropLast_singleton, List.getLast?_cons_cons, List.getLast?_singleton, List.cons_append, List.nil_append, List.append_nil, List.reverse_cons, List.reverse_nil, Option.getD_some, Option.getD_none, Option.some.injEq, Option.bind_some, exists_eq_left', exists_eq_left, exists_eq_right, exists_and_left, true_and, and_true, if_true, if_false, reduceCtorEq, reduceIte, Bool.false_eq_true, Bool.false_xor, Bool.true_xor, List.replicate_succ, List.replicate_zero, List.length_cons, List.length_nil, Nat.zero_add, Nat.reduceAdd, Nat.reduceSub, O.d.injEq, D.int.injEq, Res.d.injEq, B.l.injEq, B.d.injEq, D.bl.injEq, D.str.injEq, D.lst.injEq, D.tup.injEq, Nat.zero_le, isCount, id, decide_eq_true_eq, Bool.not_false] at hK ⊢; refine ⟨rfl, ?_⟩; by_cases q : 0 ≤ i <;> simp only [q, if_true, if_false] at hK ⊢ <;> first | exact hK | exact ⟨hz, hK⟩
          | bl b => simp only [D.isTy, IS.sms, IS.sm, IE.sm, IE.sms, IE.smo, pl, List.map_cons, List.map_nil, andW, orW, andT, orT, wisW, srcW, prs, ifsW, wNext, wSeq, wBrk, wCnt, wDrop, wRet, wIfS, wSet, wUnp, wPar, parGo, wFor, wc, w1, w2, waNil, waCons, wN, wTup, wLst, wtv, wtNot, wtAnd, wtOr, Pz.wNot, wAnd, wOr, wIf, wChain, wtCmp, wtChain, wSl, woNo, woE, wIsi, wMth, wApp, wExt, wPop, wDct0, wDct, dspGo, wLc, wiRng1, wiRng2, wiEnum, wtYes, S.mv, fBin, fCmp, retC, ent, Fn.g, zfz_d, zfz_l, zfz_m, zfz_p, zdatO, zdat_d, zdat_l, zdat_m, zlook_d, zlook_p, zofz_d, zofz_p, zfzO, zfz, zconsO, zlooks_nil, zlooks_cons, zfzs_nil, zfzs_cons, zwvO_d, zwvO_l, zwvO_m, zwv, zset, zput_d, zput_l, zput_m, zputO, zput_p, zpush_d, zpush_l, zpush_m, zpushO, zpush_p, zmvs_nil, zmvs_cons, zout_d, zout_l, zout_m, zoutO_d, zoutO_l, zoutO_m, zout_p, ztru_non, ztru_bl, ztru_int, ztru_str, ztru_lst, ztru_tup, ztru_dic, zadd_i, zadd_s, zadd_l, zadd_t, zsub, zmul_i, zmul_l, zmul_s, zmul_t, zdiv, zmod, zpow, zneg, zlt_i, zle_i, zgt_i, zge_i, zlt_s, zle_s, zgt_s, zge_s, zeq_i, zne_i, zeq_s, zne_s, zis, zis_b, zix_l, zix_t, zix_s, zsl_l, zsl_t, zsl_s, zlen_s, zlen_l, zlen_t, zlen_d, ztup_l, ztup_t, zlist_l, zlist_t, zmax, zmin, zall, zany, zsum, zsorted, zrepr, zset_nm, zset_tt, zset_tl, zsets_nil, zsets_cons, zseqK_l, zseqK_t, zseqK_s, zseq, zcall_pu, zdkK, zcall_dk, zuns_nil, zuns_cons, zbkO_d, zbkO_l, zbkO_m, zbkO_n, zbkO_0, zback_nil, zback_cons, zat0, zat1, zat2, zat3, zm_split, zm_words, zm_join_l, zm_join_t, zm_upper, zm_lower, D.tyS, Mth.ty, List.getElem?_cons_zero, List.getElem?_cons_succ, List.set_cons_zero, List.set_cons_succ, List.dropLast_cons_cons, List.dropLast_singleton, List.getLast?_cons_cons, List.getLast?_singleton, List.cons_append, List.nil_append, List.append_nil, List.reverse_cons, List.reverse_nil, Option.getD_some, Option.getD_none, Option.some.injEq, Option.bind_some, exists_eq_left', exists_eq_left, exists_eq_right, exists_and_left, true_and, and_true, if_true, if_false, reduceCtorEq, reduceIte, Bool.false_eq_true, Bool.false_xor, Bool.true_xor, List.replicate_succ, List.replicate_zero, List.length_cons, List.length_nil, Nat.zero_add, Nat.reduceAdd, Nat.reduceSub, O.d.injEq, D.int.injEq, Res.d.injEq, B.l.injEq, B.d.injEq, D.bl.injEq, D.str.injEq, D.lst.injEq, D.tup.injEq, Nat.zero_le, isCount, id, Bool.not_true] at hK ⊢; exact ⟨rfl, hK⟩
          | _ => exact hK
        · simp only [IS.sms, IS.sm, IE.sm, IE.sms, IE.smo, pl, List.map_cons, List.map_nil, andW, orW, andT, orT, wisW, srcW, prs, ifsW, wNext, wSeq, wBrk, wCnt, wDrop, wRet, wIfS, wSet, wUnp, wPar, parGo, wFor, wc, w1, w2, waNil, waCons, wN, wTup, wLst, wtv, wtNot, wtAnd, wtOr, Pz.wNot, wAnd, wOr, wIf, wChain, wtCmp, wtChain, wSl, woNo, woE, wIsi, wMth, wApp, wExt, wPop, wDct0, wDct, dspGo, wLc, wiRng1, wiRng2, wiEnum, wtYes, S.mv, fBin, fCmp, retC, ent, Fn.g, zfz_d, zfz_l, zfz_m, zfz_p, zdatO, zdat_d, zdat_l, zdat_m, zlook_d, zlook_p, zofz_d, zofz_p, zfzO, zfz, zconsO, zlooks_nil, zlooks_cons, zfzs_nil, zfzs_cons, zwvO_d, zwvO_l, zwvO_m, zwv, zset, zput_d, zput_l, zput_m, zputO, zput_p, zpush_d, zpush_l, zpush_m, zpushO, zpush_p, zmvs_nil, zmvs_cons, zout_d, zout_l, zout_m, zoutO_d, zoutO_l, zoutO_m, zout_p, ztru_non, ztru_bl, ztru_int, ztru_str, ztru_lst, ztru_tup, ztru_dic, zadd_i, zadd_s, zadd_l, zadd_t, zsub, zmul_i, zmul_l, zmul_s, zmul_t, zdiv, zmod, zpow, zneg, zlt_i, zle_i, zgt_i, zge_i, zlt_s, zle_s, zgt_s, zge_s, zeq_i, zne_i, zeq_s, zne_s, zis, zis_b, zix_l, zix_t, zix_s, zsl_l, zsl_t, zsl_s, zlen_s, zlen_l, zlen_t, zlen_d, ztup_l, ztup_t, zlist_l, zlist_t, zmax, zmin, zall, zany, zsum, zsorted, zrepr, zset_nm, zset_tt, zset_tl, zsets_nil, zsets_cons, zseqK_l, zseqK_t, zseqK_s, zseq, zcall_pu, zdkK, zcall_dk, zuns_nil, zuns_cons, zbkO_d, zbkO_l, zbkO_m, zbkO_n, zbkO_0, zback_nil, zback_cons, zat0, zat1, zat2, zat3, zm_split, zm_words, zm_join_l, zm_join_t, zm_upper, zm_lower, D.tyS, Mth.ty, List.getElem?_cons_zero, List.getElem?_cons_succ, List.set_cons_zero, List.set_cons_succ, List.dropLast_cons_cons, List.dropLast_singleton, List.getLast?_cons_cons, List.getLast?_singleton, List.cons_append, List.nil_append, List.append_nil, List.reverse_cons, List.reverse_nil, Option.getD_some, Option.getD_none, Option.some.injEq, Option.bind_some, exists_eq_left', exists_eq_left, exists_eq_right, exists_and_left, true_and, and_true, if_true, if_false, reduceCtorEq, reduceIte, Bool.false_eq_true, Bool.false_xor, Bool.true_xor, List.replicate_succ, List.replicate_zero, List.length_cons, List.length_nil, Nat.zero_add, Nat.reduceAdd, Nat.reduceSub, O.d.injEq, D.int.injEq, Res.d.injEq, B.l.injEq, B.d.injEq, D.bl.injEq, D.str.injEq, D.lst.injEq, D.tup.injEq, Nat.zero_le, List.map_id]
          simp only [isStand, e, decide_true, Bool.true_and] at h2
          have hf : decide (((xs.filter isCount).length : Int) = xs.length) = xs.all isCount := by
            rw [Bool.eq_iff_iff]
            simp only [decide_eq_true_eq, List.all_eq_true]
            constructor
            · intro q
              have q : (xs.filter isCount).length = xs.length := by omega
              exact List.length_filter_eq_length_iff.mp q
            · intro q
              rw [List.filter_eq_self.mpr q]
          rw [hf]; exact h2
      · rw [if_pos (by simp; omega)]
        simp only [isStand, e, decide_false, Bool.false_and] at h2
        exact h2
    | _ => exact h2
end Q

set_option maxRecDepth 100000
set_option maxHeartbeats 4000000
namespace Q
open PySem L2 Pz
/-- what the law looks at -/
def any1 (d : D) : Prop := Sm 43 2000 5 d ∧ shortT d
theorem any_item {d : D} (h : item d) (h2 : shortT d) : any1 d := ⟨h.mono (by decide) (by decide), h2⟩
theorem sh_of {d : D} (h : ∀ xs, d ≠ .tup xs) : shortT d := fun xs e => absurd e (h xs)
theorem sh_tup {xs : List D} (h : xs.length ≤ 100000) : shortT (.tup xs) := fun ys e => by cases e; exact h
theorem item_num {d : D} (h : numOk d) : item d := by
  obtain ⟨i, rfl, h1, h2⟩ := h
  exact Sm.int (by decide) (by omega) (by omega)
theorem item_low {d : D} (h : lowS 8 d) : Sm 43 8 0 d := by
  obtain ⟨x, rfl, h1⟩ := h
  exact Sm.str h1.1 h1.2
theorem door_sm {d : D} (h : doorOk d) : Sm 43 27 1 d := by
  obtain ⟨xs, rfl, h1, h2⟩ := h
  exact (Sm.tup' (n := 8) (k := 0) (m := 3) (fun x hx => (h2 x hx).elim (fun e => e ▸ Sm.non) item_low) (by omega) (by omega))
theorem house_sm {rs ds : List D} (h1 : rs.length ≤ 7) (h2 : ∀ d ∈ rs, lowS 8 d) (h3 : ds.length ≤ 12) (h4 : ∀ d ∈ ds, doorOk d) : Sm 43 800 3 (.tup [.tup rs, .tup ds]) := by
  have a : Sm 43 336 2 (.tup rs) := (Sm.tup' (n := 8) (k := 0) (m := 7) (fun x hx => item_low (h2 x hx)) h1 (k' := 2) (by decide)).mono (by decide) (by decide)
  have b : Sm 43 336 2 (.tup ds) := (Sm.tup' (n := 27) (k := 1) (m := 12) (fun x hx => door_sm (h4 x hx)) h3 (k' := 2) (by decide)).mono (by decide) (by decide)
  exact (Sm.tup' (n := 336) (k := 2) (m := 2) (fun x hx => by
    simp only [List.mem_cons, List.not_mem_nil, or_false] at hx
    rcases hx with rfl | rfl
    · exact a
    · exact b) (by simp) (k' := 3) (by decide)).mono (by decide) (by decide)
def pfStandK : List D → (Res → Prop) → Prop := fun ds R => ds.length = 2 ∧ pfStand (pick [1, 0] ds) R
theorem k_law (F : Fs) (h1 : F.fn "_law_draw" = some (.dk pfDraw)) (h2 : F.fn "_law_house" = some (.dk pfHouse)) (h3 : F.fn "_law_spot" = some (.dk pfSpot)) (h4 : F.fn "_law_changed" = some (.dk pfChanged))
    (h5 : F.fn "_law_is_right" = some (.pu pfStand)) (h6 : F.fn "is_stand" = some (.pu pfStand)) (h7 : F.kw "is_stand" ["thing", "building"] = some (.pu pfStandK)) (p c a : Addr) :
    IS.sms F (some (p, c)) b_law ⟨some (.d (.cst (.ref a))) :: some (.d (.cst (.ref p))) :: List.replicate (N_law.length - 2) none, 0⟩ (retC fun r _ => r = .d (.bl true)) := by
  have sz : sizeLine = 16777216 := sizeLine_eq
  simp only [N_law, b_law, IS.sms, IS.sm, IE.sm, IE.sms, IE.smo, pl, List.map_cons, List.map_nil, andW, orW, andT, orT, wisW, srcW, prs, ifsW, wNext, wSeq, wBrk, wCnt, wDrop, wRet, wIfS, wSet, wUnp, wPar, parGo, wFor, wc, w1, w2, waNil, waCons, wN, wTup, wLst, wtv, wtNot, wtAnd, wtOr, Pz.wNot, wAnd, wOr, wIf, wChain, wtCmp, wtChain, wSl, woNo, woE, wIsi, wMth, wApp, wExt, wPop, wDct0, wDct, dspGo, wLc, wiRng1, wiRng2, wiEnum, wtYes, S.mv, fBin, fCmp, retC, ent, Fn.g, zfz_d, zfz_l, zfz_m, zfz_p, zdatO, zdat_d, zdat_l, zdat_m, zlook_d, zlook_p, zofz_d, zofz_p, zfzO, zfz, zconsO, zlooks_nil, zlooks_cons, zfzs_nil, zfzs_cons, zwvO_d, zwvO_l, zwvO_m, zwv, zset, zput_d, zput_l, zput_m, zputO, zput_p, zpush_d, zpush_l, zpush_m, zpushO, zpush_p, zmvs_nil, zmvs_cons, zout_d, zout_l, zout_m, zoutO_d, zoutO_l, zoutO_m, zout_p, ztru_non, ztru_bl, ztru_int, ztru_str, ztru_lst, ztru_tup, ztru_dic, zadd_i, zadd_s, zadd_l, zadd_t, zsub, zmul_i, zmul_l, zmul_s, zmul_t, zdiv, zmod, zpow, zneg, zlt_i, zle_i, zgt_i, zge_i, zlt_s, zle_s, zgt_s, zge_s, zeq_i, zne_i, zeq_s, zne_s, zis, zis_b, zix_l, zix_t, zix_s, zsl_l, zsl_t, zsl_s, zlen_s, zlen_l, zlen_t, zlen_d, ztup_l, ztup_t, zlist_l, zlist_t, zmax, zmin, zall, zany, zsum, zsorted, zrepr, zset_nm, zset_tt, zset_tl, zsets_nil, zsets_cons, zseqK_l, zseqK_t, zseqK_s, zseq, zcall_pu, zdkK, zcall_dk, zuns_nil, zuns_cons, zbkO_d, zbkO_l, zbkO_m, zbkO_n, zbkO_0, zback_nil, zback_cons, zat0, zat1, zat2, zat3, zm_split, zm_words, zm_join_l, zm_join_t, zm_upper, zm_lower, D.tyS, Mth.ty, List.getElem?_cons_zero, List.getElem?_cons_succ, List.set_cons_zero, List.set_cons_succ, List.dropLast_cons_cons, List.dropLast_singleton, List.getLast?_cons_cons, List.getLast?_singleton, List.cons_append, List.nil_append, List.append_nil, List.reverse_cons, List.reverse_nil, Option.getD_some, Option.getD_none, Option.some.injEq, Option.bind_some, exists_eq_left', exists_eq_left, exists_eq_right, exists_and_left, true_and, and_true, if_true, if_false, reduceCtorEq, reduceIte, Bool.false_eq_true, Bool.false_xor, Bool.true_xor, List.replicate_succ, List.replicate_zero, List.length_cons, List.length_nil, Nat.zero_add, Nat.reduceAdd, Nat.reduceSub, O.d.injEq, D.int.injEq, Res.d.injEq, B.l.injEq, B.d.injEq, D.bl.injEq, D.str.injEq, D.lst.injEq, D.tup.injEq, Nat.zero_le, h1, h2, h3, h4, h5, h6, h7]
  refine ⟨⟨by decide, by decide⟩, for_inv (fun i ρ => ∃ (b2 b3 b4 b5 b6 b7 b8 : Option B) (kk : Nat), ρ = ⟨[some (.d (.cst (.ref a))), some (.d (.cst (.ref p))), b2, b3, b4, b5, b6, b7, b8], kk⟩ ∧ kk ≤ 1000 * i)
    ⟨none, none, none, none, none, none, none, 0, rfl, by decide⟩ (fun i x ρ Kn hx ⟨b2, b3, b4, b5, b6, b7, b8, kk, e, hk⟩ hK => ?_) fun ρ _ => trivial⟩
  subst e
  obtain ⟨hi, rfl⟩ := rngL_get hx
  have hi : i < 10 := hi
  simp only [IS.sms, IS.sm, IE.sm, IE.sms, IE.smo, pl, List.map_cons, List.map_nil, andW, orW, andT, orT, wisW, srcW, prs, ifsW, wNext, wSeq, wBrk, wCnt, wDrop, wRet, wIfS, wSet, wUnp, wPar, parGo, wFor, wc, w1, w2, waNil, waCons, wN, wTup, wLst, wtv, wtNot, wtAnd, wtOr, Pz.wNot, wAnd, wOr, wIf, wChain, wtCmp, wtChain, wSl, woNo, woE, wIsi, wMth, wApp, wExt, wPop, wDct0, wDct, dspGo, wLc, wiRng1, wiRng2, wiEnum, wtYes, S.mv, fBin, fCmp, retC, ent, Fn.g, zfz_d, zfz_l, zfz_m, zfz_p, zdatO, zdat_d, zdat_l, zdat_m, zlook_d, zlook_p, zofz_d, zofz_p, zfzO, zfz, zconsO, zlooks_nil, zlooks_cons, zfzs_nil, zfzs_cons, zwvO_d, zwvO_l, zwvO_m, zwv, zset, zput_d, zput_l, zput_m, zputO, zput_p, zpush_d, zpush_l, zpush_m, zpushO, zpush_p, zmvs_nil, zmvs_cons, zout_d, zout_l, zout_m, zoutO_d, zoutO_l, zoutO_m, zout_p, ztru_non, ztru_bl, ztru_int, ztru_str, ztru_lst, ztru_tup, ztru_dic, zadd_i, zadd_s, zadd_l, zadd_t, zsub, zmul_i, zmul_l, zmul_s, zmul_t, zdiv, zmod, zpow, zneg, zlt_i, zle_i, zgt_i, zge_i, zlt_s, zle_s, zgt_s, zge_s, zeq_i, zne_i, zeq_s, zne_s, zis, zis_b, zix_l, zix_t, zix_s, zsl_l, zsl_t, zsl_s, zlen_s, zlen_l, zlen_t, zlen_d, ztup_l, ztup_t, zlist_l, zlist_t, zmax, zmin, zall, zany, zsum, zsorted, zrepr, zset_nm, zset_tt, zset_tl, zsets_nil, zsets_cons, zseqK_l, zseqK_t, zseqK_s, zseq, zcall_pu, zdkK, zcall_dk, zuns_nil, zuns_cons, zbkO_d, zbkO_l, zbkO_m, zbkO_n, zbkO_0, zback_nil, zback_cons, zat0, zat1, zat2, zat3, zm_split, zm_words, zm_join_l, zm_join_t, zm_upper, zm_lower, D.tyS, Mth.ty, List.getElem?_cons_zero, List.getElem?_cons_succ, List.set_cons_zero, List.set_cons_succ, List.dropLast_cons_cons, List.dropLast_singleton, List.getLast?_cons_cons, List.getLast?_singleton, List.cons_append, List.nil_append, List.append_nil, List.reverse_cons, List.reverse_nil, Option.getD_some, Option.getD_none, Option.some.injEq, Option.bind_some, exists_eq_left', exists_eq_left, exists_eq_right, exists_and_left, true_and, and_true, if_true, if_false, reduceCtorEq, reduceIte, Bool.false_eq_true, Bool.false_xor, Bool.true_xor, List.replicate_succ, List.replicate_zero, List.length_cons, List.length_nil, Nat.zero_add, Nat.reduceAdd, Nat.reduceSub, O.d.injEq, D.int.injEq, Res.d.injEq, B.l.injEq, B.d.injEq, D.bl.injEq, D.str.injEq, D.lst.injEq, D.tup.injEq, Nat.zero_le, pfHouse]
  refine ⟨⟨by decide, by decide, by decide, by decide, by omega⟩, fun rs ds k1 r1 r2 r3 r4 r5 r6 => ?_⟩
  have hs := house_sm (by omega) r3 (by omega) r5
  have hr : Sm 43 800 3 (.tup rs) := (Sm.tup' (n := 8) (k := 0) (m := 7) (fun x hx => item_low (r3 x hx)) (by omega) (k' := 2) (by decide)).mono (by decide) (by decide)
  refine ⟨by omega, by omega, by omega, by omega, by omega, by omega, by omega, ⟨by decide, by decide⟩, ?_⟩
  have hpool : ∀ u ∈ [D.non, D.bl true, D.int 0, D.int 1, D.str (Str.ofString ""), D.str (Str.ofString "0"), D.tup [], D.lst [], D.dic [] [], D.tup [D.tup []], D.tup [D.int 0], D.lst [D.int 0], D.tup [D.non], D.tup [D.tup rs, D.tup ds], D.tup rs, D.tup [D.bl true], D.tup [D.int 0, D.int 0]], any1 u := fun u hu => by
    simp only [List.mem_cons, List.not_mem_nil, or_false] at hu
    rcases hu with rfl | rfl | rfl | rfl | rfl | rfl | rfl | rfl | rfl | rfl | rfl | rfl | rfl | rfl | rfl | rfl | rfl
    · exact ⟨Sm.non, sh_of (by simp)⟩
    · exact ⟨Sm.bl, sh_of (by simp)⟩
    · exact ⟨Sm.int (by decide) (by decide) (by decide), sh_of (by simp)⟩
    · exact ⟨Sm.int (by decide) (by decide) (by decide), sh_of (by simp)⟩
    · exact ⟨⟨rfl, by decide +kernel, by decide +kernel, by decide +kernel, by decide +kernel⟩, sh_of (by simp)⟩
    · exact ⟨⟨rfl, by decide +kernel, by decide +kernel, by decide +kernel, by decide +kernel⟩, sh_of (by simp)⟩
    · exact ⟨⟨rfl, by decide +kernel, by decide +kernel, by decide +kernel, by decide +kernel⟩, sh_tup (by simp)⟩
    · exact ⟨⟨rfl, by decide +kernel, by decide +kernel, by decide +kernel, by decide +kernel⟩, sh_of (by simp)⟩
    · exact ⟨⟨rfl, by decide +kernel, by decide +kernel, by decide +kernel, by decide +kernel⟩, sh_of (by simp)⟩
    · exact ⟨⟨rfl, by decide +kernel, by decide +kernel, by decide +kernel, by decide +kernel⟩, sh_tup (by simp)⟩
    · exact ⟨⟨rfl, by decide +kernel, by decide +kernel, by decide +kernel, by decide +kernel⟩, sh_tup (by simp)⟩
    · exact ⟨⟨rfl, by decide +kernel, by decide +kernel, by decide +kernel, by decide +kernel⟩, sh_of (by simp)⟩
    · exact ⟨⟨rfl, by decide +kernel, by decide +kernel, by decide +kernel, by decide +kernel⟩, sh_tup (by simp)⟩
    · exact ⟨hs.mono (by decide) (by decide), sh_tup (by simp)⟩
    · exact ⟨hr.mono (by decide) (by decide), sh_tup (by omega)⟩
    · exact ⟨⟨rfl, by decide +kernel, by decide +kernel, by decide +kernel, by decide +kernel⟩, sh_tup (by simp)⟩
    · exact ⟨⟨rfl, by decide +kernel, by decide +kernel, by decide +kernel, by decide +kernel⟩, sh_tup (by simp)⟩
  have hpl : [D.non, D.bl true, D.int 0, D.int 1, D.str (Str.ofString ""), D.str (Str.ofString "0"), D.tup [], D.lst [], D.dic [] [], D.tup [D.tup []], D.tup [D.int 0], D.lst [D.int 0], D.tup [D.non], D.tup [D.tup rs, D.tup ds], D.tup rs, D.tup [D.bl true], D.tup [D.int 0, D.int 0]].length = 17 := rfl
  generalize [D.non, D.bl true, D.int 0, D.int 1, D.str (Str.ofString ""), D.str (Str.ofString "0"), D.tup [], D.lst [], D.dic [] [], D.tup [D.tup []], D.tup [D.int 0], D.lst [D.int 0], D.tup [D.non], D.tup [D.tup rs, D.tup ds], D.tup rs, D.tup [D.bl true], D.tup [D.int 0, D.int 0]] = pool at hpool hpl ⊢
  refine for_inv (fun j ρ => ∃ (acc : List D) (b5 b6 b7 b8 : Option B) (kk : Nat), ρ = ⟨[some (.d (.cst (.ref a))), some (.d (.cst (.ref p))), some (.d (.int (0 + i))), some (.d (.tup [.tup rs, .tup ds])), some (.l acc), b5, b6, b7, b8], kk⟩ ∧ acc.length = 17 + 2 * j ∧ (∀ d ∈ acc, any1 d) ∧ kk ≤ k1 + 20 * j)
    ⟨pool, b5, b6, b7, b8, k1, rfl, hpl, hpool, by omega⟩ (fun j x ρ Kn hx ⟨acc, b5, b6, b7, b8, kj, e, hl, hd, hk⟩ hK => ?_) fun ρ ⟨acc, b5, b6, b7, b8, kj, e, hl, hd, hk⟩ => ?_
  · subst e
    obtain ⟨hj, rfl⟩ := rngL_get hx
    have hj : j < 12 := hj
    simp only [IS.sms, IS.sm, IE.sm, IE.sms, IE.smo, pl, List.map_cons, List.map_nil, andW, orW, andT, orT, wisW, srcW, prs, ifsW, wNext, wSeq, wBrk, wCnt, wDrop, wRet, wIfS, wSet, wUnp, wPar, parGo, wFor, wc, w1, w2, waNil, waCons, wN, wTup, wLst, wtv, wtNot, wtAnd, wtOr, Pz.wNot, wAnd, wOr, wIf, wChain, wtCmp, wtChain, wSl, woNo, woE, wIsi, wMth, wApp, wExt, wPop, wDct0, wDct, dspGo, wLc, wiRng1, wiRng2, wiEnum, wtYes, S.mv, fBin, fCmp, retC, ent, Fn.g, zfz_d, zfz_l, zfz_m, zfz_p, zdatO, zdat_d, zdat_l, zdat_m, zlook_d, zlook_p, zofz_d, zofz_p, zfzO, zfz, zconsO, zlooks_nil, zlooks_cons, zfzs_nil, zfzs_cons, zwvO_d, zwvO_l, zwvO_m, zwv, zset, zput_d, zput_l, zput_m, zputO, zput_p, zpush_d, zpush_l, zpush_m, zpushO, zpush_p, zmvs_nil, zmvs_cons, zout_d, zout_l, zout_m, zoutO_d, zoutO_l, zoutO_m, zout_p, ztru_non, ztru_bl, ztru_int, ztru_str, ztru_lst, ztru_tup, ztru_dic, zadd_i, zadd_s, zadd_l, zadd_t, zsub, zmul_i, zmul_l, zmul_s, zmul_t, zdiv, zmod, zpow, zneg, zlt_i, zle_i, zgt_i, zge_i, zlt_s, zle_s, zgt_s, zge_s, zeq_i, zne_i, zeq_s, zne_s, zis, zis_b, zix_l, zix_t, zix_s, zsl_l, zsl_t, zsl_s, zlen_s, zlen_l, zlen_t, zlen_d, ztup_l, ztup_t, zlist_l, zlist_t, zmax, zmin, zall, zany, zsum, zsorted, zrepr, zset_nm, zset_tt, zset_tl, zsets_nil, zsets_cons, zseqK_l, zseqK_t, zseqK_s, zseq, zcall_pu, zdkK, zcall_dk, zuns_nil, zuns_cons, zbkO_d, zbkO_l, zbkO_m, zbkO_n, zbkO_0, zback_nil, zback_cons, zat0, zat1, zat2, zat3, zm_split, zm_words, zm_join_l, zm_join_t, zm_upper, zm_lower, D.tyS, Mth.ty, List.getElem?_cons_zero, List.getElem?_cons_succ, List.set_cons_zero, List.set_cons_succ, List.dropLast_cons_cons, List.dropLast_singleton, List.getLast?_cons_cons, List.getLast?_singleton, List.cons_append, List.nil_append, List.append_nil, List.reverse_cons, List.reverse_nil, Option.getD_some, Option.getD_none, Option.some.injEq, Option.bind_some, exists_eq_left', exists_eq_left, exists_eq_right, exists_and_left, true_and, and_true, if_true, if_false, reduceCtorEq, reduceIte, Bool.false_eq_true, Bool.false_xor, Bool.true_xor, List.replicate_succ, List.replicate_zero, List.length_cons, List.length_nil, Nat.zero_add, Nat.reduceAdd, Nat.reduceSub, O.d.injEq, D.int.injEq, Res.d.injEq, B.l.injEq, B.d.injEq, D.bl.injEq, D.str.injEq, D.lst.injEq, D.tup.injEq, Nat.zero_le, pfSpot]
    refine ⟨⟨by omega, by omega⟩, fun xs k2 x1 x2 x3 => ?_⟩
    have hx1 : any1 (.tup xs) := ⟨(Sm.tup' (n := 10) (k := 3) (m := 7) (fun x hx => item_num (x2 x hx)) (by omega) (k' := 4) (by decide)).mono (by decide) (by decide), sh_tup (by omega)⟩
    refine ⟨⟨acc, rfl⟩, by omega, ?_⟩
    have acc1 : ∀ d ∈ acc ++ [D.tup xs], any1 d := fun u hu => (List.mem_append.mp hu).elim (hd u) fun h => by rw [List.mem_singleton.mp h]; exact hx1
    have step : ∀ (u : D) (b5 b6 b7 b8 : Option B) (k' : Nat), any1 u → k' ≤ k1 + 20 * (j + 1) → Kn ⟨[some (.d (.cst (.ref a))), some (.d (.cst (.ref p))), some (.d (.int (0 + i))), some (.d (.tup [.tup rs, .tup ds])), some (.l (acc ++ [D.tup xs] ++ [u])), b5, b6, b7, b8], k'⟩ := fun u b5 b6 b7 b8 k' hu hk' =>
      hK _ ⟨_, _, _, _, _, _, rfl, by simp [hl]; omega, fun v hv => (List.mem_append.mp hv).elim (acc1 v) fun h => by rw [List.mem_singleton.mp h]; exact hu, hk'⟩
    have al : (acc ++ [D.tup xs]).length < sizeLine := by rw [List.length_append, List.length_singleton]; omega
    simp only [pfChanged]
    refine ⟨⟨by omega, fun x hx => item_num (x2 x hx), by omega⟩, fun ys k3 y1 y2 y3 => ⟨?_, ?_⟩⟩
    · have sy : Sm 43 2000 5 (.tup ys) := (Sm.tup' (n := 10) (k := 3) (m := 15) y2 (by omega) (k' := 4) (by decide)).mono (by decide) (by decide)
      simp only [IS.sms, IS.sm, IE.sm, IE.sms, IE.smo, pl, List.map_cons, List.map_nil, andW, orW, andT, orT, wisW, srcW, prs, ifsW, wNext, wSeq, wBrk, wCnt, wDrop, wRet, wIfS, wSet, wUnp, wPar, parGo, wFor, wc, w1, w2, waNil, waCons, wN, wTup, wLst, wtv, wtNot, wtAnd, wtOr, Pz.wNot, wAnd, wOr, wIf, wChain, wtCmp, wtChain, wSl, woNo, woE, wIsi, wMth, wApp, wExt, wPop, wDct0, wDct, dspGo, wLc, wiRng1, wiRng2, wiEnum, wtYes, S.mv, fBin, fCmp, retC, ent, Fn.g, zfz_d, zfz_l, zfz_m, zfz_p, zdatO, zdat_d, zdat_l, zdat_m, zlook_d, zlook_p, zofz_d, zofz_p, zfzO, zfz, zconsO, zlooks_nil, zlooks_cons, zfzs_nil, zfzs_cons, zwvO_d, zwvO_l, zwvO_m, zwv, zset, zput_d, zput_l, zput_m, zputO, zput_p, zpush_d, zpush_l, zpush_m, zpushO, zpush_p, zmvs_nil, zmvs_cons, zout_d, zout_l, zout_m, zoutO_d, zoutO_l, zoutO_m, zout_p, ztru_non, ztru_bl, ztru_int, ztru_str, ztru_lst, ztru_tup, ztru_dic, zadd_i, zadd_s, zadd_l, zadd_t, zsub, zmul_i, zmul_l, zmul_s, zmul_t, zdiv, zmod, zpow, zneg, zlt_i, zle_i, zgt_i, zge_i, zlt_s, zle_s, zgt_s, zge_s, zeq_i, zne_i, zeq_s, zne_s, zis, zis_b, zix_l, zix_t, zix_s, zsl_l, zsl_t, zsl_s, zlen_s, zlen_l, zlen_t, zlen_d, ztup_l, ztup_t, zlist_l, zlist_t, zmax, zmin, zall, zany, zsum, zsorted, zrepr, zset_nm, zset_tt, zset_tl, zsets_nil, zsets_cons, zseqK_l, zseqK_t, zseqK_s, zseq, zcall_pu, zdkK, zcall_dk, zuns_nil, zuns_cons, zbkO_d, zbkO_l, zbkO_m, zbkO_n, zbkO_0, zback_nil, zback_cons, zat0, zat1, zat2, zat3, zm_split, zm_words, zm_join_l, zm_join_t, zm_upper, zm_lower, D.tyS, Mth.ty, List.getElem?_cons_zero, List.getElem?_cons_succ, List.set_cons_zero, List.set_cons_succ, List.dropLast_cons_cons, List.dropLast_singleton, List.getLast?_cons_cons, List.getLast?_singleton, List.cons_append, List.nil_append, List.append_nil, List.reverse_cons, List.reverse_nil, Option.getD_some, Option.getD_none, Option.some.injEq, Option.bind_some, exists_eq_left', exists_eq_left, exists_eq_right, exists_and_left, true_and, and_true, if_true, if_false, reduceCtorEq, reduceIte, Bool.false_eq_true, Bool.false_xor, Bool.true_xor, List.replicate_succ, List.replicate_zero, List.length_cons, List.length_nil, Nat.zero_add, Nat.reduceAdd, Nat.reduceSub, O.d.injEq, D.int.injEq, Res.d.injEq, B.l.injEq, B.d.injEq, D.bl.injEq, D.str.injEq, D.lst.injEq, D.tup.injEq, Nat.zero_le, D.isTy, pfDraw]
      refine ⟨⟨_, rfl⟩, sy.isD, ⟨by decide, by decide, by omega⟩, fun w w0 w1 => ?_⟩
      simp only [decide_eq_true_eq]
      split
      · refine ⟨⟨by omega, y2, by omega⟩, fun zs k4 z1 z2 z3 => ⟨?_, ?_⟩⟩
        · have sz' : Sm 43 2000 5 (.tup zs) := (Sm.tup' (n := 10) (k := 3) (m := 31) z2 (by omega) (k' := 4) (by decide)).mono (by decide) (by decide)
          exact ⟨al, step _ _ _ _ _ _ ⟨sz', sh_tup (by omega)⟩ (by omega)⟩
        · have sz' : Sm 43 2000 5 (.lst zs) := (Sm.lst' (n := 10) (k := 3) (m := 31) z2 (by omega) (k' := 4) (by decide)).mono (by decide) (by decide)
          exact ⟨al, step _ _ _ _ _ _ ⟨sz', sh_of (by simp)⟩ (by omega)⟩
      · exact ⟨al, step _ _ _ _ _ _ ⟨sy, sh_tup (by omega)⟩ (by omega)⟩
    · have sy : Sm 43 2000 5 (.lst ys) := (Sm.lst' (n := 10) (k := 3) (m := 15) y2 (by omega) (k' := 4) (by decide)).mono (by decide) (by decide)
      simp only [IS.sms, IS.sm, IE.sm, IE.sms, IE.smo, pl, List.map_cons, List.map_nil, andW, orW, andT, orT, wisW, srcW, prs, ifsW, wNext, wSeq, wBrk, wCnt, wDrop, wRet, wIfS, wSet, wUnp, wPar, parGo, wFor, wc, w1, w2, waNil, waCons, wN, wTup, wLst, wtv, wtNot, wtAnd, wtOr, Pz.wNot, wAnd, wOr, wIf, wChain, wtCmp, wtChain, wSl, woNo, woE, wIsi, wMth, wApp, wExt, wPop, wDct0, wDct, dspGo, wLc, wiRng1, wiRng2, wiEnum, wtYes, S.mv, fBin, fCmp, retC, ent, Fn.g, zfz_d, zfz_l, zfz_m, zfz_p, zdatO, zdat_d, zdat_l, zdat_m, zlook_d, zlook_p, zofz_d, zofz_p, zfzO, zfz, zconsO, zlooks_nil, zlooks_cons, zfzs_nil, zfzs_cons, zwvO_d, zwvO_l, zwvO_m, zwv, zset, zput_d, zput_l, zput_m, zputO, zput_p, zpush_d, zpush_l, zpush_m, zpushO, zpush_p, zmvs_nil, zmvs_cons, zout_d, zout_l, zout_m, zoutO_d, zoutO_l, zoutO_m, zout_p, ztru_non, ztru_bl, ztru_int, ztru_str, ztru_lst, ztru_tup, ztru_dic, zadd_i, zadd_s, zadd_l, zadd_t, zsub, zmul_i, zmul_l, zmul_s, zmul_t, zdiv, zmod, zpow, zneg, zlt_i, zle_i, zgt_i, zge_i, zlt_s, zle_s, zgt_s, zge_s, zeq_i, zne_i, zeq_s, zne_s, zis, zis_b, zix_l, zix_t, zix_s, zsl_l, zsl_t, zsl_s, zlen_s, zlen_l, zlen_t, zlen_d, ztup_l, ztup_t, zlist_l, zlist_t, zmax, zmin, zall, zany, zsum, zsorted, zrepr, zset_nm, zset_tt, zset_tl, zsets_nil, zsets_cons, zseqK_l, zseqK_t, zseqK_s, zseq, zcall_pu, zdkK, zcall_dk, zuns_nil, zuns_cons, zbkO_d, zbkO_l, zbkO_m, zbkO_n, zbkO_0, zback_nil, zback_cons, zat0, zat1, zat2, zat3, zm_split, zm_words, zm_join_l, zm_join_t, zm_upper, zm_lower, D.tyS, Mth.ty, List.getElem?_cons_zero, List.getElem?_cons_succ, List.set_cons_zero, List.set_cons_succ, List.dropLast_cons_cons, List.dropLast_singleton, List.getLast?_cons_cons, List.getLast?_singleton, List.cons_append, List.nil_append, List.append_nil, List.reverse_cons, List.reverse_nil, Option.getD_some, Option.getD_none, Option.some.injEq, Option.bind_some, exists_eq_left', exists_eq_left, exists_eq_right, exists_and_left, true_and, and_true, if_true, if_false, reduceCtorEq, reduceIte, Bool.false_eq_true, Bool.false_xor, Bool.true_xor, List.replicate_succ, List.replicate_zero, List.length_cons, List.length_nil, Nat.zero_add, Nat.reduceAdd, Nat.reduceSub, O.d.injEq, D.int.injEq, Res.d.injEq, B.l.injEq, B.d.injEq, D.bl.injEq, D.str.injEq, D.lst.injEq, D.tup.injEq, Nat.zero_le, D.isTy]
      exact ⟨⟨_, rfl⟩, sy.isD, al, step _ _ _ _ _ _ ⟨sy, sh_of (by simp)⟩ (by omega)⟩
  · subst e
    simp only [IS.sms, IS.sm, IE.sm, IE.sms, IE.smo, pl, List.map_cons, List.map_nil, andW, orW, andT, orT, wisW, srcW, prs, ifsW, wNext, wSeq, wBrk, wCnt, wDrop, wRet, wIfS, wSet, wUnp, wPar, parGo, wFor, wc, w1, w2, waNil, waCons, wN, wTup, wLst, wtv, wtNot, wtAnd, wtOr, Pz.wNot, wAnd, wOr, wIf, wChain, wtCmp, wtChain, wSl, woNo, woE, wIsi, wMth, wApp, wExt, wPop, wDct0, wDct, dspGo, wLc, wiRng1, wiRng2, wiEnum, wtYes, S.mv, fBin, fCmp, retC, ent, Fn.g, zfz_d, zfz_l, zfz_m, zfz_p, zdatO, zdat_d, zdat_l, zdat_m, zlook_d, zlook_p, zofz_d, zofz_p, zfzO, zfz, zconsO, zlooks_nil, zlooks_cons, zfzs_nil, zfzs_cons, zwvO_d, zwvO_l, zwvO_m, zwv, zset, zput_d, zput_l, zput_m, zputO, zput_p, zpush_d, zpush_l, zpush_m, zpushO, zpush_p, zmvs_nil, zmvs_cons, zout_d, zout_l, zout_m, zoutO_d, zoutO_l, zoutO_m, zout_p, ztru_non, ztru_bl, ztru_int, ztru_str, ztru_lst, ztru_tup, ztru_dic, zadd_i, zadd_s, zadd_l, zadd_t, zsub, zmul_i, zmul_l, zmul_s, zmul_t, zdiv, zmod, zpow, zneg, zlt_i, zle_i, zgt_i, zge_i, zlt_s, zle_s, zgt_s, zge_s, zeq_i, zne_i, zeq_s, zne_s, zis, zis_b, zix_l, zix_t, zix_s, zsl_l, zsl_t, zsl_s, zlen_s, zlen_l, zlen_t, zlen_d, ztup_l, ztup_t, zlist_l, zlist_t, zmax, zmin, zall, zany, zsum, zsorted, zrepr, zset_nm, zset_tt, zset_tl, zsets_nil, zsets_cons, zseqK_l, zseqK_t, zseqK_s, zseq, zcall_pu, zdkK, zcall_dk, zuns_nil, zuns_cons, zbkO_d, zbkO_l, zbkO_m, zbkO_n, zbkO_0, zback_nil, zback_cons, zat0, zat1, zat2, zat3, zm_split, zm_words, zm_join_l, zm_join_t, zm_upper, zm_lower, D.tyS, Mth.ty, List.getElem?_cons_zero, List.getElem?_cons_succ, List.set_cons_zero, List.set_cons_succ, List.dropLast_cons_cons, List.dropLast_singleton, List.getLast?_cons_cons, List.getLast?_singleton, List.cons_append, List.nil_append, List.append_nil, List.reverse_cons, List.reverse_nil, Option.getD_some, Option.getD_none, Option.some.injEq, Option.bind_some, exists_eq_left', exists_eq_left, exists_eq_right, exists_and_left, true_and, and_true, if_true, if_false, reduceCtorEq, reduceIte, Bool.false_eq_true, Bool.false_xor, Bool.true_xor, List.replicate_succ, List.replicate_zero, List.length_cons, List.length_nil, Nat.zero_add, Nat.reduceAdd, Nat.reduceSub, O.d.injEq, D.int.injEq, Res.d.injEq, B.l.injEq, B.d.injEq, D.bl.injEq, D.str.injEq, D.lst.injEq, D.tup.injEq, Nat.zero_le]
    rw [rngL_len] at hl hk
    have e12 : Int.toNat 12 = 12 := rfl
    rw [e12] at hl hk
    have big : Sm 43 100000 6 (.lst acc) := (Sm.lst' (n := 2000) (k := 5) (m := 41) (fun d hx => (hd d hx).1) (by omega) (k' := 6) (by decide)).mono (by decide) (by decide)
    have big2 : Sm 43 210000 7 (.lst [D.tup [D.tup rs, D.tup ds], D.lst acc]) := (Sm.lst' (n := 100000) (k := 6) (m := 2) (fun d hx => by
      simp only [List.mem_cons, List.not_mem_nil, or_false] at hx
      rcases hx with rfl | rfl
      · exact hs.mono (by decide) (by decide)
      · exact big) (by simp) (k' := 7) (by decide)).mono (by decide) (by decide)
    have hsh := big2.show (by decide) (by decide) (by decide)
    refine ⟨by omega, hsh.1, hsh.2, ?_⟩
    have rb : ∀ b : Bool, okShow (.bl b) = true ∧ (D.bl b).py.shown.length ≤ sizeLine := fun b => (Sm.bl (B := 43) (n := 0) (k := 0)).show (by decide) (by decide) (by decide)
    generalize hSH : (D.lst [D.tup [D.tup rs, D.tup ds], D.lst acc]).py.shown = SH at hsh ⊢
    refine for_inv (fun j ρ => ∃ (b7 b8 : Option B), ρ = ⟨[some (.d (.cst (.ref a))), some (.d (.cst (.ref p))), some (.d (.int (0 + i))), some (.d (.tup [.tup rs, .tup ds])), some (.d (.lst acc)), b5, some (.d (.str SH)), b7, b8], kj⟩)
      ⟨b7, b8, rfl⟩ (fun j x ρ Kn' hx ⟨b7, b8, e⟩ hK' => ?_) fun ρ ⟨b7, b8, e⟩ => ?_
    · subst e
      have hx1 := hd x (List.mem_of_getElem? hx)
      simp only [IS.sms, IS.sm, IE.sm, IE.sms, IE.smo, pl, List.map_cons, List.map_nil, andW, orW, andT, orT, wisW, srcW, prs, ifsW, wNext, wSeq, wBrk, wCnt, wDrop, wRet, wIfS, wSet, wUnp, wPar, parGo, wFor, wc, w1, w2, waNil, waCons, wN, wTup, wLst, wtv, wtNot, wtAnd, wtOr, Pz.wNot, wAnd, wOr, wIf, wChain, wtCmp, wtChain, wSl, woNo, woE, wIsi, wMth, wApp, wExt, wPop, wDct0, wDct, dspGo, wLc, wiRng1, wiRng2, wiEnum, wtYes, S.mv, fBin, fCmp, retC, ent, Fn.g, zfz_d, zfz_l, zfz_m, zfz_p, zdatO, zdat_d, zdat_l, zdat_m, zlook_d, zlook_p, zofz_d, zofz_p, zfzO, zfz, zconsO, zlooks_nil, zlooks_cons, zfzs_nil, zfzs_cons, zwvO_d, zwvO_l, zwvO_m, zwv, zset, zput_d, zput_l, zput_m, zputO, zput_p, zpush_d, zpush_l, zpush_m, zpushO, zpush_p, zmvs_nil, zmvs_cons, zout_d, zout_l, zout_m, zoutO_d, zoutO_l, zoutO_m, zout_p, ztru_non, ztru_bl, ztru_int, ztru_str, ztru_lst, ztru_tup, ztru_dic, zadd_i, zadd_s, zadd_l, zadd_t, zsub, zmul_i, zmul_l, zmul_s, zmul_t, zdiv, zmod, zpow, zneg, zlt_i, zle_i, zgt_i, zge_i, zlt_s, zle_s, zgt_s, zge_s, zeq_i, zne_i, zeq_s, zne_s, zis, zis_b, zix_l, zix_t, zix_s, zsl_l, zsl_t, zsl_s, zlen_s, zlen_l, zlen_t, zlen_d, ztup_l, ztup_t, zlist_l, zlist_t, zmax, zmin, zall, zany, zsum, zsorted, zrepr, zset_nm, zset_tt, zset_tl, zsets_nil, zsets_cons, zseqK_l, zseqK_t, zseqK_s, zseq, zcall_pu, zdkK, zcall_dk, zuns_nil, zuns_cons, zbkO_d, zbkO_l, zbkO_m, zbkO_n, zbkO_0, zback_nil, zback_cons, zat0, zat1, zat2, zat3, zm_split, zm_words, zm_join_l, zm_join_t, zm_upper, zm_lower, D.tyS, Mth.ty, List.getElem?_cons_zero, List.getElem?_cons_succ, List.set_cons_zero, List.set_cons_succ, List.dropLast_cons_cons, List.dropLast_singleton, List.getLast?_cons_cons, List.getLast?_singleton, List.cons_append, List.nil_append, List.append_nil, List.reverse_cons, List.reverse_nil, Option.getD_some, Option.getD_none, Option.some.injEq, Option.bind_some, exists_eq_left', exists_eq_left, exists_eq_right, exists_and_left, true_and, and_true, if_true, if_false, reduceCtorEq, reduceIte, Bool.false_eq_true, Bool.false_xor, Bool.true_xor, List.replicate_succ, List.replicate_zero, List.length_cons, List.length_nil, Nat.zero_add, Nat.reduceAdd, Nat.reduceSub, O.d.injEq, D.int.injEq, Res.d.injEq, B.l.injEq, B.d.injEq, D.bl.injEq, D.str.injEq, D.lst.injEq, D.tup.injEq, Nat.zero_le, pfStand, pfStandK, pick, List.filterMap]
      have hsx : x.isD = true ∧ shortT x := ⟨hx1.1.isD, hx1.2⟩
      have hb := rb (isStand rs.length x)
      refine ⟨hsx, hb.1, hb.2, hsx, hb.1, hb.2, ?_⟩
      rw [if_neg (by simp)]
      refine ⟨hsx, hb.1, hb.2, ?_⟩
      rw [if_neg (by simp)]
      exact hK' _ ⟨_, _, rfl⟩
    · subst e
      simp only [IS.sms, IS.sm, IE.sm, IE.sms, IE.smo, pl, List.map_cons, List.map_nil, andW, orW, andT, orT, wisW, srcW, prs, ifsW, wNext, wSeq, wBrk, wCnt, wDrop, wRet, wIfS, wSet, wUnp, wPar, parGo, wFor, wc, w1, w2, waNil, waCons, wN, wTup, wLst, wtv, wtNot, wtAnd, wtOr, Pz.wNot, wAnd, wOr, wIf, wChain, wtCmp, wtChain, wSl, woNo, woE, wIsi, wMth, wApp, wExt, wPop, wDct0, wDct, dspGo, wLc, wiRng1, wiRng2, wiEnum, wtYes, S.mv, fBin, fCmp, retC, ent, Fn.g, zfz_d, zfz_l, zfz_m, zfz_p, zdatO, zdat_d, zdat_l, zdat_m, zlook_d, zlook_p, zofz_d, zofz_p, zfzO, zfz, zconsO, zlooks_nil, zlooks_cons, zfzs_nil, zfzs_cons, zwvO_d, zwvO_l, zwvO_m, zwv, zset, zput_d, zput_l, zput_m, zputO, zput_p, zpush_d, zpush_l, zpush_m, zpushO, zpush_p, zmvs_nil, zmvs_cons, zout_d, zout_l, zout_m, zoutO_d, zoutO_l, zoutO_m, zout_p, ztru_non, ztru_bl, ztru_int, ztru_str, ztru_lst, ztru_tup, ztru_dic, zadd_i, zadd_s, zadd_l, zadd_t, zsub, zmul_i, zmul_l, zmul_s, zmul_t, zdiv, zmod, zpow, zneg, zlt_i, zle_i, zgt_i, zge_i, zlt_s, zle_s, zgt_s, zge_s, zeq_i, zne_i, zeq_s, zne_s, zis, zis_b, zix_l, zix_t, zix_s, zsl_l, zsl_t, zsl_s, zlen_s, zlen_l, zlen_t, zlen_d, ztup_l, ztup_t, zlist_l, zlist_t, zmax, zmin, zall, zany, zsum, zsorted, zrepr, zset_nm, zset_tt, zset_tl, zsets_nil, zsets_cons, zseqK_l, zseqK_t, zseqK_s, zseq, zcall_pu, zdkK, zcall_dk, zuns_nil, zuns_cons, zbkO_d, zbkO_l, zbkO_m, zbkO_n, zbkO_0, zback_nil, zback_cons, zat0, zat1, zat2, zat3, zm_split, zm_words, zm_join_l, zm_join_t, zm_upper, zm_lower, D.tyS, Mth.ty, List.getElem?_cons_zero, List.getElem?_cons_succ, List.set_cons_zero, List.set_cons_succ, List.dropLast_cons_cons, List.dropLast_singleton, List.getLast?_cons_cons, List.getLast?_singleton, List.cons_append, List.nil_append, List.append_nil, List.reverse_cons, List.reverse_nil, Option.getD_some, Option.getD_none, Option.some.injEq, Option.bind_some, exists_eq_left', exists_eq_left, exists_eq_right, exists_and_left, true_and, and_true, if_true, if_false, reduceCtorEq, reduceIte, Bool.false_eq_true, Bool.false_xor, Bool.true_xor, List.replicate_succ, List.replicate_zero, List.length_cons, List.length_nil, Nat.zero_add, Nat.reduceAdd, Nat.reduceSub, O.d.injEq, D.int.injEq, Res.d.injEq, B.l.injEq, B.d.injEq, D.bl.injEq, D.str.injEq, D.lst.injEq, D.tup.injEq, Nat.zero_le]
      refine ⟨by omega, hsh.1, by rw [hSH]; exact hsh.2, ?_⟩
      rw [if_neg (by simp [hSH])]
      exact hK _ ⟨_, _, _, _, _, _, _, _, rfl, by omega⟩
end Q

set_option maxRecDepth 100000
set_option maxHeartbeats 4000000
namespace Q
open PySem L2 Pz
theorem all_mk {l : PySem.W.OpenLaw} {w : World} {K : PySem.W.Frag} {h : Heap} {mg : Str → Option Value} {fa : Addr} (X : K.In h) (G : h.Ns mainGlobals mg) (hfa : mg "law" = some (.ref fa))
    {f0 : Addr} {od0 an0 : Option Addr} {sl0 : Array (Option Value)} {oc0 kV0 dc0 pm0 cd0 ct0 : Value}
    (a0 : PySem.W.nsIn K mainGlobals "is_count" = some (some (.ref f0))) (l0 : K.lookup f0 = some ⟨oc0, od0, .func (PySem.W.fnOf "is_count" "is_count" (defArgs s_is_count) (defBody s_is_count) (defScope s_is_count) .none kV0 dc0 pm0 an0 cd0 ct0), sl0⟩) (c0 : PySem.W.codeIn K cd0 "is_count" = true) (k0 : PySem.W.keepIn K (.ref f0) = true)
    {f1 : Addr} {od1 an1 : Option Addr} {sl1 : Array (Option Value)} {oc1 kV1 dc1 pm1 cd1 ct1 : Value}
    (a1 : PySem.W.nsIn K mainGlobals "is_stand" = some (some (.ref f1))) (l1 : K.lookup f1 = some ⟨oc1, od1, .func (PySem.W.fnOf "is_stand" "is_stand" (defArgs s_is_stand) (defBody s_is_stand) (defScope s_is_stand) .none kV1 dc1 pm1 an1 cd1 ct1), sl1⟩) (c1 : PySem.W.codeIn K cd1 "is_stand" = true) (k1 : PySem.W.keepIn K (.ref f1) = true)
    {f2 : Addr} {od2 an2 : Option Addr} {sl2 : Array (Option Value)} {oc2 kV2 dc2 pm2 cd2 ct2 : Value}
    (a2 : PySem.W.nsIn K mainGlobals "_law_deck" = some (some (.ref f2))) (l2 : K.lookup f2 = some ⟨oc2, od2, .func (PySem.W.fnOf "_law_deck" "_law_deck" (defArgs s_law_deck) (defBody s_law_deck) (defScope s_law_deck) .none kV2 dc2 pm2 an2 cd2 ct2), sl2⟩) (c2 : PySem.W.codeIn K cd2 "_law_deck" = true) (k2 : PySem.W.keepIn K (.ref f2) = true)
    {f3 : Addr} {od3 an3 : Option Addr} {sl3 : Array (Option Value)} {oc3 kV3 dc3 pm3 cd3 ct3 : Value}
    (a3 : PySem.W.nsIn K mainGlobals "_law_draw" = some (some (.ref f3))) (l3 : K.lookup f3 = some ⟨oc3, od3, .func (PySem.W.fnOf "_law_draw" "_law_draw" (defArgs s_law_draw) (defBody s_law_draw) (defScope s_law_draw) .none kV3 dc3 pm3 an3 cd3 ct3), sl3⟩) (c3 : PySem.W.codeIn K cd3 "_law_draw" = true) (k3 : PySem.W.keepIn K (.ref f3) = true)
    {f4 : Addr} {od4 an4 : Option Addr} {sl4 : Array (Option Value)} {oc4 kV4 dc4 pm4 cd4 ct4 : Value}
    (a4 : PySem.W.nsIn K mainGlobals "_law_pick" = some (some (.ref f4))) (l4 : K.lookup f4 = some ⟨oc4, od4, .func (PySem.W.fnOf "_law_pick" "_law_pick" (defArgs s_law_pick) (defBody s_law_pick) (defScope s_law_pick) .none kV4 dc4 pm4 an4 cd4 ct4), sl4⟩) (c4 : PySem.W.codeIn K cd4 "_law_pick" = true) (k4 : PySem.W.keepIn K (.ref f4) = true)
    {f5 : Addr} {od5 an5 : Option Addr} {sl5 : Array (Option Value)} {oc5 kV5 dc5 pm5 cd5 ct5 : Value}
    (a5 : PySem.W.nsIn K mainGlobals "_law_labels" = some (some (.ref f5))) (l5 : K.lookup f5 = some ⟨oc5, od5, .func (PySem.W.fnOf "_law_labels" "_law_labels" (defArgs s_law_labels) (defBody s_law_labels) (defScope s_law_labels) .none kV5 dc5 pm5 an5 cd5 ct5), sl5⟩) (c5 : PySem.W.codeIn K cd5 "_law_labels" = true) (k5 : PySem.W.keepIn K (.ref f5) = true)
    {f6 : Addr} {od6 an6 : Option Addr} {sl6 : Array (Option Value)} {oc6 kV6 dc6 pm6 cd6 ct6 : Value}
    (a6 : PySem.W.nsIn K mainGlobals "_law_house" = some (some (.ref f6))) (l6 : K.lookup f6 = some ⟨oc6, od6, .func (PySem.W.fnOf "_law_house" "_law_house" (defArgs s_law_house) (defBody s_law_house) (defScope s_law_house) .none kV6 dc6 pm6 an6 cd6 ct6), sl6⟩) (c6 : PySem.W.codeIn K cd6 "_law_house" = true) (k6 : PySem.W.keepIn K (.ref f6) = true)
    {f7 : Addr} {od7 an7 : Option Addr} {sl7 : Array (Option Value)} {oc7 kV7 dc7 pm7 cd7 ct7 : Value}
    (a7 : PySem.W.nsIn K mainGlobals "_law_ends" = some (some (.ref f7))) (l7 : K.lookup f7 = some ⟨oc7, od7, .func (PySem.W.fnOf "_law_ends" "_law_ends" (defArgs s_law_ends) (defBody s_law_ends) (defScope s_law_ends) .none kV7 dc7 pm7 an7 cd7 ct7), sl7⟩) (c7 : PySem.W.codeIn K cd7 "_law_ends" = true) (k7 : PySem.W.keepIn K (.ref f7) = true)
    {f8 : Addr} {od8 an8 : Option Addr} {sl8 : Array (Option Value)} {oc8 kV8 dc8 pm8 cd8 ct8 : Value}
    (a8 : PySem.W.nsIn K mainGlobals "_law_spot" = some (some (.ref f8))) (l8 : K.lookup f8 = some ⟨oc8, od8, .func (PySem.W.fnOf "_law_spot" "_law_spot" (defArgs s_law_spot) (defBody s_law_spot) (defScope s_law_spot) .none kV8 dc8 pm8 an8 cd8 ct8), sl8⟩) (c8 : PySem.W.codeIn K cd8 "_law_spot" = true) (k8 : PySem.W.keepIn K (.ref f8) = true)
    {f9 : Addr} {od9 an9 : Option Addr} {sl9 : Array (Option Value)} {oc9 kV9 dc9 pm9 cd9 ct9 : Value}
    (a9 : PySem.W.nsIn K mainGlobals "_law_changed" = some (some (.ref f9))) (l9 : K.lookup f9 = some ⟨oc9, od9, .func (PySem.W.fnOf "_law_changed" "_law_changed" (defArgs s_law_changed) (defBody s_law_changed) (defScope s_law_changed) .none kV9 dc9 pm9 an9 cd9 ct9), sl9⟩) (c9 : PySem.W.codeIn K cd9 "_law_changed" = true) (k9 : PySem.W.keepIn K (.ref f9) = true)
    {f10 : Addr} {od10 an10 : Option Addr} {sl10 : Array (Option Value)} {oc10 kV10 dc10 pm10 cd10 ct10 : Value}
    (a10 : PySem.W.nsIn K mainGlobals "_law_is_right" = some (some (.ref f10))) (l10 : K.lookup f10 = some ⟨oc10, od10, .func (PySem.W.fnOf "_law_is_right" "_law_is_right" (defArgs s_law_is_right) (defBody s_law_is_right) (defScope s_law_is_right) .none kV10 dc10 pm10 an10 cd10 ct10), sl10⟩) (c10 : PySem.W.codeIn K cd10 "_law_is_right" = true) (k10 : PySem.W.keepIn K (.ref f10) = true)
    {f11 : Addr} {od11 an11 : Option Addr} {sl11 : Array (Option Value)} {oc11 kV11 dc11 pm11 cd11 ct11 : Value}
    (a11 : PySem.W.nsIn K mainGlobals "law" = some (some (.ref f11))) (l11 : K.lookup f11 = some ⟨oc11, od11, .func (PySem.W.fnOf "law" "law" (defArgs s_law) (defBody s_law) (defScope s_law) .none kV11 dc11 pm11 an11 cd11 ct11), sl11⟩) (c11 : PySem.W.codeIn K cd11 "law" = true) (k11 : PySem.W.keepIn K (.ref f11) = true)
    (z0 : PySem.W.nsIn K mainGlobals "len" = some none)
    (z1 : PySem.W.nsIn K mainGlobals "repr" = some none)
    (z2 : PySem.W.nsIn K mainGlobals "isinstance" = some none)
    (z3 : PySem.W.nsIn K mainGlobals "tuple" = some none)
    (z4 : PySem.W.nsIn K mainGlobals "list" = some none)
    (z5 : PySem.W.nsIn K mainGlobals "sorted" = some none)
    (z6 : PySem.W.nsIn K mainGlobals "sum" = some none)
    (z7 : PySem.W.nsIn K mainGlobals "max" = some none)
    (z8 : PySem.W.nsIn K mainGlobals "min" = some none)
    (z9 : PySem.W.nsIn K mainGlobals "all" = some none)
    (z10 : PySem.W.nsIn K mainGlobals "any" = some none)
    (z11 : PySem.W.nsIn K mainGlobals "int" = some none)
    (z12 : PySem.W.nsIn K mainGlobals "bool" = some none)
    (z13 : PySem.W.nsIn K mainGlobals "str" = some none)
    (z14 : PySem.W.nsIn K mainGlobals "dict" = some none)
    (z15 : PySem.W.nsIn K mainGlobals "range" = some none)
    (z16 : PySem.W.nsIn K mainGlobals "zip" = some none)
    (z17 : PySem.W.nsIn K mainGlobals "enumerate" = some none)
    (z18 : PySem.W.nsIn K mainGlobals "set" = some none)
    (z19 : PySem.W.nsIn K mainGlobals "abs" = some none)
    : ∃ fd : FuncData, (∀ (s : Shared) (u : Value), BindsTo s fd ⟨[u], []⟩ [("_law_script", u)]) ∧ ∀ base : Heap, K.In base → base.Ns mainGlobals mg → FnZ l.prog w K mg base CX0 11 fa fd ["_law_script"] (spLaw K) := by
  have hz : ∀ x ∈ blts, PySem.W.nsIn K mainGlobals x = some none := by
    intro x hx
    simp only [blts, List.mem_cons, List.not_mem_nil, or_false] at hx
    rcases hx with rfl | rfl | rfl | rfl | rfl | rfl | rfl | rfl | rfl | rfl | rfl | rfl | rfl | rfl | rfl | rfl | rfl | rfl | rfl | rfl
    · exact z0
    · exact z1
    · exact z2
    · exact z3
    · exact z4
    · exact z5
    · exact z6
    · exact z7
    · exact z8
    · exact z9
    · exact z10
    · exact z11
    · exact z12
    · exact z13
    · exact z14
    · exact z15
    · exact z16
    · exact z17
    · exact z18
    · exact z19
  have F_is_count := fun_mk (st := s_is_count) l0 c0 k0
  have D_is_count : DefAt K mg "is_count" s_is_count ["thing"] f0 _ := ⟨F_is_count, PySem.W.mg_of X G a0, F_is_count.binds fun _ _ _ _ _ _ us hl => match us, hl with | [_], _ => rfl⟩
  have F_is_stand := fun_mk (st := s_is_stand) l1 c1 k1
  have D_is_stand : DefAt K mg "is_stand" s_is_stand ["building", "thing"] f1 _ := ⟨F_is_stand, PySem.W.mg_of X G a1, F_is_stand.binds fun _ _ _ _ _ _ us hl => match us, hl with | [_, _], _ => rfl⟩
  have F_law_deck := fun_mk (st := s_law_deck) l2 c2 k2
  have D_law_deck : DefAt K mg "_law_deck" s_law_deck ["_law_script"] f2 _ := ⟨F_law_deck, PySem.W.mg_of X G a2, F_law_deck.binds fun _ _ _ _ _ _ us hl => match us, hl with | [_], _ => rfl⟩
  have F_law_draw := fun_mk (st := s_law_draw) l3 c3 k3
  have D_law_draw : DefAt K mg "_law_draw" s_law_draw ["_law_deck_here", "_law_many"] f3 _ := ⟨F_law_draw, PySem.W.mg_of X G a3, F_law_draw.binds fun _ _ _ _ _ _ us hl => match us, hl with | [_, _], _ => rfl⟩
  have F_law_pick := fun_mk (st := s_law_pick) l4 c4 k4
  have D_law_pick : DefAt K mg "_law_pick" s_law_pick ["_law_deck_here", "_law_some"] f4 _ := ⟨F_law_pick, PySem.W.mg_of X G a4, F_law_pick.binds fun _ _ _ _ _ _ us hl => match us, hl with | [_, _], _ => rfl⟩
  have F_law_labels := fun_mk (st := s_law_labels) l5 c5 k5
  have D_law_labels : DefAt K mg "_law_labels" s_law_labels ["_law_deck_here", "_law_many"] f5 _ := ⟨F_law_labels, PySem.W.mg_of X G a5, F_law_labels.binds fun _ _ _ _ _ _ us hl => match us, hl with | [_, _], _ => rfl⟩
  have F_law_house := fun_mk (st := s_law_house) l6 c6 k6
  have D_law_house : DefAt K mg "_law_house" s_law_house ["_law_deck_here", "_law_rooms_at_most", "_law_doors_at_most"] f6 _ := ⟨F_law_house, PySem.W.mg_of X G a6, F_law_house.binds fun _ _ _ _ _ _ us hl => match us, hl with | [_, _, _], _ => rfl⟩
  have F_law_ends := fun_mk (st := s_law_ends) l7 c7 k7
  have D_law_ends : DefAt K mg "_law_ends" s_law_ends ["_law_deck_here", "_law_some"] f7 _ := ⟨F_law_ends, PySem.W.mg_of X G a7, F_law_ends.binds fun _ _ _ _ _ _ us hl => match us, hl with | [_, _], _ => rfl⟩
  have F_law_spot := fun_mk (st := s_law_spot) l8 c8 k8
  have D_law_spot : DefAt K mg "_law_spot" s_law_spot ["_law_deck_here", "_law_house_here"] f8 _ := ⟨F_law_spot, PySem.W.mg_of X G a8, F_law_spot.binds fun _ _ _ _ _ _ us hl => match us, hl with | [_, _], _ => rfl⟩
  have F_law_changed := fun_mk (st := s_law_changed) l9 c9 k9
  have D_law_changed : DefAt K mg "_law_changed" s_law_changed ["_law_deck_here", "_law_it"] f9 _ := ⟨F_law_changed, PySem.W.mg_of X G a9, F_law_changed.binds fun _ _ _ _ _ _ us hl => match us, hl with | [_, _], _ => rfl⟩
  have F_law_is_right := fun_mk (st := s_law_is_right) l10 c10 k10
  have D_law_is_right : DefAt K mg "_law_is_right" s_law_is_right ["_law_house_here", "_law_it"] f10 _ := ⟨F_law_is_right, PySem.W.mg_of X G a10, F_law_is_right.binds fun _ _ _ _ _ _ us hl => match us, hl with | [_, _], _ => rfl⟩
  have F_law := fun_mk (st := s_law) l11 c11 k11
  have D_law : DefAt K mg "law" s_law ["_law_script"] f11 _ := ⟨F_law, PySem.W.mg_of X G a11, F_law.binds fun _ _ _ _ _ _ us hl => match us, hl with | [_], _ => rfl⟩
  have e := hfa.symm.trans (PySem.W.mg_of X G a11)
  cases e
  refine ⟨PySem.W.fnOf "law" "law" (defArgs s_law) (defBody s_law) (defScope s_law) .none kV11 dc11 pm11 an11 cd11 ct11, fun s v => .of_eq rfl, fun base _ _ => ?_⟩
  have ok0 := Gam.Ok.nil (P := l.prog) (w := w) (K := K) (mg := mg) (base := base) (blts_mk X G hz)
  have H_deck := mk_ok ok0 F_law_deck sc_law_deck ck_law_deck
  have ok1 := ok0.draw D_law_draw sc_law_draw ck_law_draw
  have ok2 := ok1.def (i := .dk pfPick) D_law_pick sc_law_pick ck_law_pick (fun ds k R h => by unfold pfPick at h; split at h <;> first | rfl | exact h.elim) (k_pick _ (by repeat (first | exact fn_eq | exact kw_eq | refine fn_ne (by decide +kernel) ?_ | refine fn_k ?_ | refine kw_ne (by decide +kernel) ?_ | refine kw_a ?_)))
  have ok3 := ok2.def (i := .dk pfLabels) D_law_labels sc_law_labels ck_law_labels (fun ds k R h => by unfold pfLabels at h; split at h <;> first | rfl | exact h.elim) (k_labels _ (by repeat (first | exact fn_eq | exact kw_eq | refine fn_ne (by decide +kernel) ?_ | refine fn_k ?_ | refine kw_ne (by decide +kernel) ?_ | refine kw_a ?_)))
  have ok4 := ok3.def (i := .dk pfEnds) D_law_ends sc_law_ends ck_law_ends (fun ds k R h => by unfold pfEnds at h; split at h <;> first | rfl | exact h.elim) (k_ends _ (by repeat (first | exact fn_eq | exact kw_eq | refine fn_ne (by decide +kernel) ?_ | refine fn_k ?_ | refine kw_ne (by decide +kernel) ?_ | refine kw_a ?_)))
  have ok5 := ok4.def (i := .dk pfHouse) D_law_house sc_law_house ck_law_house (fun ds k R h => by unfold pfHouse at h; split at h <;> first | rfl | exact h.elim) (k_house _ (by repeat (first | exact fn_eq | exact kw_eq | refine fn_ne (by decide +kernel) ?_ | refine fn_k ?_ | refine kw_ne (by decide +kernel) ?_ | refine kw_a ?_)) (by repeat (first | exact fn_eq | exact kw_eq | refine fn_ne (by decide +kernel) ?_ | refine fn_k ?_ | refine kw_ne (by decide +kernel) ?_ | refine kw_a ?_)) (by repeat (first | exact fn_eq | exact kw_eq | refine fn_ne (by decide +kernel) ?_ | refine fn_k ?_ | refine kw_ne (by decide +kernel) ?_ | refine kw_a ?_)))
  have ok6 := ok5.def (i := .dk pfSpot) D_law_spot sc_law_spot ck_law_spot (fun ds k R h => by unfold pfSpot at h; split at h <;> first | rfl | exact h.elim) (k_spot _ (by repeat (first | exact fn_eq | exact kw_eq | refine fn_ne (by decide +kernel) ?_ | refine fn_k ?_ | refine kw_ne (by decide +kernel) ?_ | refine kw_a ?_)) (by repeat (first | exact fn_eq | exact kw_eq | refine fn_ne (by decide +kernel) ?_ | refine fn_k ?_ | refine kw_ne (by decide +kernel) ?_ | refine kw_a ?_)))
  have ok7 := ok6.def (i := .dk pfChanged) D_law_changed sc_law_changed ck_law_changed (fun ds k R h => by unfold pfChanged at h; split at h <;> first | rfl | exact h.elim) (k_changed _ (by repeat (first | exact fn_eq | exact kw_eq | refine fn_ne (by decide +kernel) ?_ | refine fn_k ?_ | refine kw_ne (by decide +kernel) ?_ | refine kw_a ?_)) (by repeat (first | exact fn_eq | exact kw_eq | refine fn_ne (by decide +kernel) ?_ | refine fn_k ?_ | refine kw_ne (by decide +kernel) ?_ | refine kw_a ?_)))
  have ok8 := ok7.def (i := .pu pfStand) D_law_is_right sc_law_is_right ck_law_is_right (fun ds R h => by unfold pfStand at h; split at h <;> first | rfl | exact h.elim) (k_right _)
  have ok9 := ok8.def (i := .pu pfCount) D_is_count sc_is_count ck_is_count (fun ds R h => by unfold pfCount at h; split at h <;> first | rfl | exact h.elim) (k_count _)
  have ok10 := ok9.defK (pf := pfStand) (ks := ["thing", "building"]) (π := [1, 0]) D_is_stand sc_is_stand ck_is_stand (fun ds R h => by unfold pfStand at h; split at h <;> first | rfl | exact h.elim) (k_stand _ (by repeat (first | exact fn_eq | exact kw_eq | refine fn_ne (by decide +kernel) ?_ | refine fn_k ?_ | refine kw_ne (by decide +kernel) ?_ | refine kw_a ?_))) (Fun.kwb F_is_stand fun _ _ _ _ _ _ ws hl => match ws, hl with | [_, _], _ => rfl)
  exact law_ok ok10 ⟨⟨_, _, _, 1, Nat.le_of_ble_eq_true rfl, H_deck, D_law_deck.mg, D_law_deck.fn.kp, D_law_deck.bd⟩⟩ F_law sc_law (by decide) b_law ck_law (k_law _ (by repeat (first | exact fn_eq | exact kw_eq | refine fn_ne (by decide +kernel) ?_ | refine fn_k ?_ | refine kw_ne (by decide +kernel) ?_ | refine kw_a ?_)) (by repeat (first | exact fn_eq | exact kw_eq | refine fn_ne (by decide +kernel) ?_ | refine fn_k ?_ | refine kw_ne (by decide +kernel) ?_ | refine kw_a ?_)) (by repeat (first | exact fn_eq | exact kw_eq | refine fn_ne (by decide +kernel) ?_ | refine fn_k ?_ | refine kw_ne (by decide +kernel) ?_ | refine kw_a ?_)) (by repeat (first | exact fn_eq | exact kw_eq | refine fn_ne (by decide +kernel) ?_ | refine fn_k ?_ | refine kw_ne (by decide +kernel) ?_ | refine kw_a ?_)) (by repeat (first | exact fn_eq | exact kw_eq | refine fn_ne (by decide +kernel) ?_ | refine fn_k ?_ | refine kw_ne (by decide +kernel) ?_ | refine kw_a ?_)) (by repeat (first | exact fn_eq | exact kw_eq | refine fn_ne (by decide +kernel) ?_ | refine fn_k ?_ | refine kw_ne (by decide +kernel) ?_ | refine kw_a ?_)) (by repeat (first | exact fn_eq | exact kw_eq | refine fn_ne (by decide +kernel) ?_ | refine fn_k ?_ | refine kw_ne (by decide +kernel) ?_ | refine kw_a ?_)))
end Q
open PySem PySem.W PyProof.Rows
set_option maxRecDepth 100000 in
set_option maxHeartbeats 0 in
theorem PySem.Challenge.cw_doorbeams_k09_stands_of_any_value_holds : PySem.Challenge.rw_doorbeams_k09_stands_of_any_value.Holds := by
  w_on; o_law; k_head; (case hw => w_witness2)
  k_fill
  refine Pz.walkZ (k := 11) (x := "_law_script") (l := PySem.Challenge.rw_doorbeams_k09_stands_of_any_value) rfl rfl ⟨rfl, by decide, by decide⟩ (by decide +kernel) (fun w h Y => PySem.W.kIn_of Y) ?kmods ?kfun
  case kmods =>
    intro w
    rfl
  case kfun =>
    intro w mg fa h KX G hmg
    refine' Q.all_mk KX G hmg ?a0 ?l0 ?c0 ?k0 ?a1 ?l1 ?c1 ?k1 ?a2 ?l2 ?c2 ?k2 ?a3 ?l3 ?c3 ?k3 ?a4 ?l4 ?c4 ?k4 ?a5 ?l5 ?c5 ?k5 ?a6 ?l6 ?c6 ?k6 ?a7 ?l7 ?c7 ?k7 ?a8 ?l8 ?c8 ?k8 ?a9 ?l9 ?c9 ?k9 ?a10 ?l10 ?c10 ?k10 ?a11 ?l11 ?c11 ?k11 ?z0 ?z1 ?z2 ?z3 ?z4 ?z5 ?z6 ?z7 ?z8 ?z9 ?z10 ?z11 ?z12 ?z13 ?z14 ?z15 ?z16 ?z17 ?z18 ?z19
    (case a0 => k_is); (case l0 => k_is); (case c0 => k_is); (case k0 => k_is)
    (case a1 => k_is); (case l1 => k_is); (case c1 => k_is); (case k1 => k_is)
    (case a2 => k_is); (case l2 => k_is); (case c2 => k_is); (case k2 => k_is)
    (case a3 => k_is); (case l3 => k_is); (case c3 => k_is); (case k3 => k_is)
    (case a4 => k_is); (case l4 => k_is); (case c4 => k_is); (case k4 => k_is)
    (case a5 => k_is); (case l5 => k_is); (case c5 => k_is); (case k5 => k_is)
    (case a6 => k_is); (case l6 => k_is); (case c6 => k_is); (case k6 => k_is)
    (case a7 => k_is); (case l7 => k_is); (case c7 => k_is); (case k7 => k_is)
    (case a8 => k_is); (case l8 => k_is); (case c8 => k_is); (case k8 => k_is)
    (case a9 => k_is); (case l9 => k_is); (case c9 => k_is); (case k9 => k_is)
    (case a10 => k_is); (case l10 => k_is); (case c10 => k_is); (case k10 => k_is)
    (case a11 => k_is); (case l11 => k_is); (case c11 => k_is); (case k11 => k_is)
    (case z0 => k_is)
    (case z1 => k_is)
    (case z2 => k_is)
    (case z3 => k_is)
    (case z4 => k_is)
    (case z5 => k_is)
    (case z6 => k_is)
    (case z7 => k_is)
    (case z8 => k_is)
    (case z9 => k_is)
    (case z10 => k_is)
    (case z11 => k_is)
    (case z12 => k_is)
    (case z13 => k_is)
    (case z14 => k_is)
    (case z15 => k_is)
    (case z16 => k_is)
    (case z17 => k_is)
    (case z18 => k_is)
    (case z19 => k_is)
#print axioms PySem.Challenge.cw_doorbeams_k09_stands_of_any_value_holds
