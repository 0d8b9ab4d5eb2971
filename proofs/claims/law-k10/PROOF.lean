import PyProof.Rows.All
import Wide.All
import OpenK.AllK
import Wide.FinOn
import HandS.ForMost
import HandS.ForExc
import HandS.CallSlots
import HandS.Wide
import HandS.Defaults
import HandS.Style
import HandS.IsInst
import HandS.TupMul
import HandS.Flow
import HandS.TupAny
import PyProof.Rows.RuleB_pow
import HandS.WideBits
import PyProof.ReprReads
import HandS.Zip
import HandS.Zip0
import PyProof.ZipIter
import PyProof.EqAt
import PyProof.EqKinds
import PyProof.TupleCall
import Open.SpecLaws
import KE.OsGo
import HandS.ForSpec
import HandS.ExcSuper
import HandS.ExcInit
import KE.KSuper
import KE.KExcSuper
import KE.KExcIs
import HandS.OwnEq
import KE.KMathGC
import HandS.ExcField
import PySem.Challenge.RW_openloops_k10_grids_that_refine
set_option Elab.async false
set_option linter.all false
set_option maxRecDepth 100000
set_option maxHeartbeats 4000000
namespace FL
open PySem PySem.Spec PyProof.Rows L2

/-- plain data: what is never changed once it is made -/
inductive D where
  | non | bl (b : Bool) | int (i : Int) | str (x : Str) | ty (n : String) | adr (a : Addr)
  | tup (xs : List D) | lst (xs : List D) | scr (ns : List Int) | cls (c : Nat)
  | obj (c : Nat) (ns : List Str) (vs : List D)
  | exc (c : Nat) (ns : List Str) (vs : List D)
/-- a value: data, or a changing object of the store -/
inductive Xv where
  | d (x : D) | ref (i : Nat)
/-- a changing object -/
inductive O where
  | dead | lst (xs : List D) | ins (c : Nat) (ns : List Str) (vs : List D)
abbrev Env' := List (Option Xv)
abbrev Sto := List O
inductive Res where
  | ok (v : Xv) (s : Sto) | exc (e : D) (s : Sto) | stuck
inductive Out where
  | nx (r : Env') (s : Sto) | rt (v : Xv) (s : Sto) | bk (r : Env') (s : Sto) | ct (r : Env') (s : Sto) | exc (e : D) (r : Env') (s : Sto) | stuck
inductive ResL where
  | ok (v : List Xv) (s : Sto) | exc (e : D) (s : Sto) | stuck
abbrev FE := Env' → Sto → Res
abbrev FA := Env' → Sto → ResL
abbrev FS := Env' → Sto → Out

/-- the text's facts: the written part, its classes by number -/
structure Tx where
  K : PySem.W.Frag
  ct : Nat → Addr
  n : Nat
  sub : Nat → Nat → Bool
structure Wd where
  G : Hp
  Z : Hp
  io : List Addr
/-- an exception's object -/
def ExA (cls : Value) (d : Option Addr) (a : Addr) : HO := .ext fun h => ∃ (oe : Obj), h.get? a = some oe ∧ Zc cls d oe ∧ ∃ vs, oe.data = .fields vs

section
variable (T : Tx)
mutual
def R (G : Hp) : D → V → Prop
  | .non, v => v = .non
  | .bl b, v => v = .bl b
  | .int i, v => v = .int i
  | .str x, v => v = .str x
  | .ty n, v => v = .ty n
  | .adr a, v => v = .ref a
  | .cls c, v => v = .ref (T.ct c)
  | .tup xs, v => ∃ a vs, v = .ref a ∧ SqT T.K G a vs ∧ Rs G xs vs
  | .lst xs, v => ∃ a vs, v = .ref a ∧ G a = some (.lst vs) ∧ Rs G xs vs
  | .scr ns, v => ∃ a, v = .ref a ∧ SqL T.K G a (ns.map V.int)
  | .obj c ns xs, v => ∃ a dx fs, v = .ref a ∧ G a = some (.ins (T.ct c) dx fs) ∧ fs.map (·.1) = ns ∧ Rs G xs (fs.map (·.2))
  | .exc c ns xs, v => ∃ a d fs, v = .ref a ∧ G a = some (ExA (.ref (T.ct c)) d a) ∧ ((d = none ∧ ns = []) ∨ ∃ dd, d = some dd ∧ G dd = some (.xd fs)) ∧ fs.map (·.1) = ns ∧ Rs G xs (fs.map (·.2))
def Rs (G : Hp) : List D → List V → Prop
  | [], vs => vs = []
  | d :: ds, vs => ∃ v r, vs = v :: r ∧ R G d v ∧ Rs G ds r
end
def RX (w : Wd) : Xv → V → Prop
  | .d x, v => R T w.G x v
  | .ref i, v => ∃ a, w.io[i]? = some a ∧ v = .ref a
def RXs (w : Wd) : List Xv → List V → Prop
  | [], vs => vs = []
  | d :: ds, vs => ∃ v r, vs = v :: r ∧ RX T w d v ∧ RXs w ds r
def RO (G : Hp) : O → HO → Prop
  | .dead, _ => True
  | .lst xs, ho => ∃ vs, ho = .lst vs ∧ Rs T G xs vs
  | .ins c ns xs, ho => ∃ dx fs, ho = .ins (T.ct c) dx fs ∧ fs.map (·.1) = ns ∧ Rs T G xs (fs.map (·.2))
structure RS (w : Wd) (s : List O) (H : Hp) : Prop where
  g : Same w.G H
  z : Same w.Z H
  gz : ∀ a o, w.Z a = some o → w.G a = none
  len : w.io.length = s.length
  live : ∀ (i : Nat) (o : O) (a : Addr), s[i]? = some o → o ≠ .dead → w.io[i]? = some a → ∃ ho, H a = some ho ∧ RO T w.G o ho ∧ w.G a = none ∧ w.Z a = none
  inj : ∀ (i j : Nat) (o u : O) (a : Addr), s[i]? = some o → o ≠ .dead → s[j]? = some u → u ≠ .dead → w.io[i]? = some a → w.io[j]? = some a → i = j
structure RE (w : Wd) (r : List (Option Xv)) (st : L2.St) : Prop where
  len : r.length = st.length
  at_ : ∀ (i : Nat) (v : Xv), r[i]? = some (some v) → ∃ u, st[i]? = some (some u) ∧ RX T w v u
end
structure Le (w w' : Wd) : Prop where
  g : Same w.G w'.G
  z : w'.Z = w.Z
  io : ∃ t, w'.io = w.io ++ t
theorem Le.refl (w : Wd) : Le w w := ⟨Same.refl _, rfl, [], by simp⟩
theorem Le.trans {a b c : Wd} (h : Le a b) (k : Le b c) : Le a c := ⟨h.g.trans k.g, k.z.trans h.z, by
  obtain ⟨t, e⟩ := h.io
  obtain ⟨u, f⟩ := k.io
  exact ⟨t ++ u, by rw [f, e, List.append_assoc]⟩⟩
theorem Le.at {w w' : Wd} (h : Le w w') {i : Nat} {a : Addr} (e : w.io[i]? = some a) : w'.io[i]? = some a := by
  obtain ⟨t, q⟩ := h.io
  rw [q, List.getElem?_append_left (List.getElem?_eq_some_iff.mp e).1]
  exact e
theorem sqT_mono {K : PySem.W.Frag} {G G' : Hp} (h : Same G G') {a : Addr} {xs : List V} (e : SqT K G a xs) : SqT K G' a xs := by
  rcases e with (e | ⟨o, e⟩) | e
  · exact .inl (.inl (h _ _ e))
  · exact .inl (.inr ⟨o, h _ _ e⟩)
  · exact .inr e
section
variable {T : Tx}
mutual
theorem R.mono {G G' : Hp} (h : Same G G') : ∀ {x : D} {v : V}, R T G x v → R T G' x v
  | .non, _, e => by unfold R at e ⊢; exact e
  | .bl _, _, e => by unfold R at e ⊢; exact e
  | .int _, _, e => by unfold R at e ⊢; exact e
  | .str _, _, e => by unfold R at e ⊢; exact e
  | .ty _, _, e => by unfold R at e ⊢; exact e
  | .adr _, _, e => by unfold R at e ⊢; exact e
  | .cls _, _, e => by unfold R at e ⊢; exact e
  | .tup xs, _, e => by
    unfold R at e ⊢
    obtain ⟨a, vs, e1, e2, e3⟩ := e
    exact ⟨a, vs, e1, sqT_mono h e2, Rs.mono h e3⟩
  | .lst xs, _, e => by
    unfold R at e ⊢
    obtain ⟨a, vs, e1, e2, e3⟩ := e
    exact ⟨a, vs, e1, h _ _ e2, Rs.mono h e3⟩
  | .scr ns, _, e => by
    unfold R at e ⊢
    obtain ⟨a, e1, e2⟩ := e
    exact ⟨a, e1, h.seq e2⟩
  | .obj c ns xs, _, e => by
    unfold R at e ⊢
    obtain ⟨a, dx, fs, e1, e2, e3, e4⟩ := e
    exact ⟨a, dx, fs, e1, h _ _ e2, e3, Rs.mono h e4⟩
  | .exc c ns xs, _, e => by
    unfold R at e ⊢
    obtain ⟨a, d, fs, e1, e2, e3, e4, e5⟩ := e
    refine ⟨a, d, fs, e1, h _ _ e2, ?_, e4, Rs.mono h e5⟩
    rcases e3 with e3 | ⟨dd, e3, e6⟩
    · exact .inl e3
    · exact .inr ⟨dd, e3, h _ _ e6⟩
theorem Rs.mono {G G' : Hp} (h : Same G G') : ∀ {xs : List D} {vs : List V}, Rs T G xs vs → Rs T G' xs vs
  | [], _, e => by unfold Rs at e ⊢; exact e
  | d :: ds, _, e => by
    unfold Rs at e ⊢
    obtain ⟨v, r, e1, e2, e3⟩ := e
    exact ⟨v, r, e1, R.mono h e2, Rs.mono h e3⟩
end
theorem RX.mono {w w' : Wd} (h : Le w w') : ∀ {x : Xv} {v : V}, RX T w x v → RX T w' x v
  | .d x, _, e => R.mono h.g e
  | .ref i, _, ⟨a, e1, e2⟩ => ⟨a, h.at e1, e2⟩
theorem RXs.mono {w w' : Wd} (h : Le w w') : ∀ {xs : List Xv} {vs : List V}, RXs T w xs vs → RXs T w' xs vs
  | [], _, e => e
  | _ :: _, _, ⟨v, r, e1, e2, e3⟩ => ⟨v, r, e1, e2.mono h, e3.mono h⟩
theorem RE.mono {w w' : Wd} (h : Le w w') {r : Env'} {st : L2.St} (e : RE T w r st) : RE T w' r st := ⟨e.len, fun i v q => by
  obtain ⟨u, e1, e2⟩ := e.at_ i v q
  exact ⟨u, e1, e2.mono h⟩⟩
theorem RO.mono {G G' : Hp} (h : Same G G') : ∀ {o : O} {ho : HO}, RO T G o ho → RO T G' o ho
  | .dead, _, _ => True.intro
  | .lst _, _, ⟨vs, e1, e2⟩ => ⟨vs, e1, Rs.mono h e2⟩
  | .ins _ _ _, _, ⟨dx, fs, e1, e2, e3⟩ => ⟨dx, fs, e1, e2, Rs.mono h e3⟩
theorem Rs.length {G : Hp} : ∀ {xs : List D} {vs : List V}, Rs T G xs vs → xs.length = vs.length
  | [], _, e => by unfold Rs at e; subst e; rfl
  | d :: ds, _, e => by
    unfold Rs at e
    obtain ⟨v, r, e1, e2, e3⟩ := e
    subst e1
    simp [Rs.length e3]
theorem RXs.length {w : Wd} : ∀ {xs : List Xv} {vs : List V}, RXs T w xs vs → xs.length = vs.length
  | [], _, e => by
    have e' : _ = [] := e
    subst e'; rfl
  | d :: ds, _, e => by
    obtain ⟨v, r, e1, e2, e3⟩ := e
    subst e1
    simp [RXs.length e3]
theorem Rs.get {G : Hp} : ∀ {xs : List D} {vs : List V} {i : Nat} {x : D}, Rs T G xs vs → xs[i]? = some x → ∃ v, vs[i]? = some v ∧ R T G x v
  | [], _, _, _, _, h => by simp at h
  | d :: ds, _, 0, x, e, h => by
    unfold Rs at e
    obtain ⟨v, r, e1, e2, e3⟩ := e
    subst e1
    simp at h
    subst h
    exact ⟨v, rfl, e2⟩
  | d :: ds, _, i + 1, x, e, h => by
    unfold Rs at e
    obtain ⟨v, r, e1, e2, e3⟩ := e
    subst e1
    obtain ⟨u, q1, q2⟩ := Rs.get (i := i) (x := x) e3 (by simpa using h)
    exact ⟨u, by simpa using q1, q2⟩
theorem Rs.append {G : Hp} : ∀ {xs ys : List D} {vs us : List V}, Rs T G xs vs → Rs T G ys us → Rs T G (xs ++ ys) (vs ++ us)
  | [], ys, vs, us, e, h => by unfold Rs at e; subst e; exact h
  | d :: ds, ys, vs, us, e, h => by
    unfold Rs at e
    obtain ⟨v, r, e1, e2, e3⟩ := e
    subst e1
    show Rs T G (d :: (ds ++ ys)) _
    unfold Rs
    exact ⟨v, r ++ us, rfl, e2, Rs.append e3 h⟩
theorem Rs.one {G : Hp} {x : D} {v : V} (h : R T G x v) : Rs T G [x] [v] := by
  unfold Rs
  exact ⟨v, [], rfl, h, by unfold Rs; rfl⟩
theorem Rs.set {G : Hp} {y : D} {u : V} (h : R T G y u) : ∀ {xs : List D} {vs : List V} (i : Nat), Rs T G xs vs → Rs T G (xs.set i y) (vs.set i u)
  | [], vs, i, e => by unfold Rs at e; subst e; show Rs T G [] []; unfold Rs; rfl
  | d :: ds, vs, 0, e => by
    unfold Rs at e
    obtain ⟨v, r, e1, e2, e3⟩ := e
    subst e1
    show Rs T G (y :: ds) (u :: r)
    unfold Rs
    exact ⟨u, r, rfl, h, e3⟩
  | d :: ds, vs, i + 1, e => by
    unfold Rs at e
    obtain ⟨v, r, e1, e2, e3⟩ := e
    subst e1
    show Rs T G (d :: ds.set i y) (v :: r.set i u)
    unfold Rs
    exact ⟨v, r.set i u, rfl, e2, Rs.set h i e3⟩
theorem Rs.take {G : Hp} : ∀ {xs : List D} {vs : List V} (n : Nat), Rs T G xs vs → Rs T G (xs.take n) (vs.take n)
  | xs, vs, 0, e => by simp; unfold Rs; rfl
  | [], vs, n + 1, e => by unfold Rs at e; subst e; show Rs T G [] []; unfold Rs; rfl
  | d :: ds, vs, n + 1, e => by
    unfold Rs at e
    obtain ⟨v, r, e1, e2, e3⟩ := e
    subst e1
    show Rs T G (d :: ds.take n) (v :: r.take n)
    unfold Rs
    exact ⟨v, r.take n, rfl, e2, Rs.take n e3⟩
theorem Rs.drop {G : Hp} : ∀ {xs : List D} {vs : List V} (n : Nat), Rs T G xs vs → Rs T G (xs.drop n) (vs.drop n)
  | xs, vs, 0, e => e
  | [], vs, n + 1, e => by unfold Rs at e; subst e; show Rs T G [] []; unfold Rs; rfl
  | d :: ds, vs, n + 1, e => by
    unfold Rs at e
    obtain ⟨v, r, e1, e2, e3⟩ := e
    subst e1
    show Rs T G (ds.drop n) (r.drop n)
    exact Rs.drop n e3
theorem Rs.cons {G : Hp} {x : D} {xs : List D} {v : V} {vs : List V} (h : R T G x v) (k : Rs T G xs vs) : Rs T G (x :: xs) (v :: vs) := by
  unfold Rs
  exact ⟨v, vs, rfl, h, k⟩
theorem RXs.cons {w : Wd} {x : Xv} {xs : List Xv} {v : V} {vs : List V} (h : RX T w x v) (k : RXs T w xs vs) : RXs T w (x :: xs) (v :: vs) := ⟨v, vs, rfl, h, k⟩

/-! ### the readings -/
/-- an exception's data, its class and its dict -/
def RExc (T : Tx) (w : Wd) (e : D) (cls : Value) (d : Option Addr) : Prop :=
  ∃ c ns xs fs, e = .exc c ns xs ∧ cls = .ref (T.ct c) ∧ ((d = none ∧ ns = []) ∨ ∃ dd, d = some dd ∧ w.G dd = some (.xd fs)) ∧ fs.map (·.1) = ns ∧ Rs T w.G xs (fs.map (·.2))
def PostE (T : Tx) (W : WX) (st : L2.St) (w : Wd) (r : Res) (Q : VK) : Prop := match r with
  | .ok v s => ∀ w' u H', Le w w' → RX T w' v u → RS T w' s H' → Q u H'
  | .exc e s => ∀ w' cls d H', Le w w' → RExc T w' e cls d → RS T w' s H' → W cls d st H'
  | .stuck => False
def rdE (T : Tx) (W : WX) (f : FE) : TE := fun st H Q => ∃ w r s, RE T w r st ∧ RS T w s H ∧ PostE T W st w (f r s) Q
def PostA (T : Tx) (W : WX) (st : L2.St) (w : Wd) (r : ResL) (Q : List V → Hp → Prop) : Prop := match r with
  | .ok v s => ∀ w' u H', Le w w' → RXs T w' v u → RS T w' s H' → Q u H'
  | .exc e s => ∀ w' cls d H', Le w w' → RExc T w' e cls d → RS T w' s H' → W cls d st H'
  | .stuck => False
def rdA (T : Tx) (W : WX) (f : FA) : TA := fun st H Q => ∃ w r s, RE T w r st ∧ RS T w s H ∧ PostA T W st w (f r s) Q
/-- a value's truth -/
def truth : Xv → Sto → Option Bool
  | .d .non, _ => some false
  | .d (.bl b), _ => some b
  | .d (.int i), _ => some (i != 0)
  | .d (.tup xs), _ => some (!xs.isEmpty)
  | .d (.lst xs), _ => some (!xs.isEmpty)
  | _, _ => none
def PostT (T : Tx) (W : WX) (st : L2.St) (w : Wd) (r : Res) (Q : Bool → Hp → Prop) : Prop := match r with
  | .ok v s => ∃ b, truth v s = some b ∧ ∀ w' H', Le w w' → RS T w' s H' → Q b H'
  | .exc e s => ∀ w' cls d H', Le w w' → RExc T w' e cls d → RS T w' s H' → W cls d st H'
  | .stuck => False
def rdT (T : Tx) (W : WX) (f : FE) : TT := fun st H Q => ∃ w r s, RE T w r st ∧ RS T w s H ∧ PostT T W st w (f r s) Q
def PostS (T : Tx) (W : WX) (w : Wd) (o : Out) (E : Ends) : Prop := match o with
  | .nx r s => ∀ w' st H', Le w w' → RE T w' r st → RS T w' s H' → E.nx st H'
  | .rt v s => ∀ w' u H', Le w w' → RX T w' v u → RS T w' s H' → E.rt u H'
  | .bk r s => ∀ w' st H', Le w w' → RE T w' r st → RS T w' s H' → E.bk st H'
  | .ct r s => ∀ w' st H', Le w w' → RE T w' r st → RS T w' s H' → E.ct st H'
  | .exc e r s => ∀ w' cls d st H', Le w w' → RExc T w' e cls d → RE T w' r st → RS T w' s H' → W cls d st H'
  | .stuck => False
def rdS (T : Tx) (W : WX) (f : FS) : TS := fun E st H => ∃ w r s, RE T w r st ∧ RS T w s H ∧ PostS T W w (f r s) E

theorem PostE.mono {W : WX} {st : L2.St} {w w' : Wd} {r : Res} {Q : VK} (h : Le w w') (p : PostE T W st w r Q) : PostE T W st w' r Q := by
  cases r with
  | ok v s => exact fun w1 u H' l => p w1 u H' (h.trans l)
  | exc e s => exact fun w1 c d H' l => p w1 c d H' (h.trans l)
  | stuck => exact p
theorem PostA.mono {W : WX} {st : L2.St} {w w' : Wd} {r : ResL} {Q : List V → Hp → Prop} (h : Le w w') (p : PostA T W st w r Q) : PostA T W st w' r Q := by
  cases r with
  | ok v s => exact fun w1 u H' l => p w1 u H' (h.trans l)
  | exc e s => exact fun w1 c d H' l => p w1 c d H' (h.trans l)
  | stuck => exact p
theorem PostT.mono {W : WX} {st : L2.St} {w w' : Wd} {r : Res} {Q : Bool → Hp → Prop} (h : Le w w') (p : PostT T W st w r Q) : PostT T W st w' r Q := by
  cases r with
  | ok v s =>
    obtain ⟨b, e, q⟩ := p
    exact ⟨b, e, fun w1 H' l => q w1 H' (h.trans l)⟩
  | exc e s => exact fun w1 c d H' l => p w1 c d H' (h.trans l)
  | stuck => exact p
theorem PostS.mono {W : WX} {w w' : Wd} {o : Out} {E : Ends} (h : Le w w') (p : PostS T W w o E) : PostS T W w' o E := by
  cases o with
  | nx r s => exact fun w1 st H' l => p w1 st H' (h.trans l)
  | rt v s => exact fun w1 st H' l => p w1 st H' (h.trans l)
  | bk r s => exact fun w1 st H' l => p w1 st H' (h.trans l)
  | ct r s => exact fun w1 st H' l => p w1 st H' (h.trans l)
  | exc e r s => exact fun w1 c d st H' l => p w1 c d st H' (h.trans l)
  | stuck => exact p

/-! ### one thing after another -/
def Res.bind (r : Res) (k : Xv → Sto → Res) : Res := match r with
  | .ok v s => k v s
  | .exc e s => .exc e s
  | .stuck => .stuck
def Res.bindA (r : Res) (k : Xv → Sto → ResL) : ResL := match r with
  | .ok v s => k v s
  | .exc e s => .exc e s
  | .stuck => .stuck
def ResL.bind (r : ResL) (k : List Xv → Sto → Res) : Res := match r with
  | .ok v s => k v s
  | .exc e s => .exc e s
  | .stuck => .stuck
def ResL.bindA (r : ResL) (k : List Xv → Sto → ResL) : ResL := match r with
  | .ok v s => k v s
  | .exc e s => .exc e s
  | .stuck => .stuck
def Res.bindS (r : Res) (ρ : Env') (k : Xv → Sto → Out) : Out := match r with
  | .ok v s => k v s
  | .exc e s => .exc e ρ s
  | .stuck => .stuck
theorem postE_bind {W : WX} {st : L2.St} {w : Wd} {ρ : Env'} {s : Sto} {H : Hp} {f : FE} {k : Xv → Sto → Res} {Q : VK} (e : RE T w ρ st) (r : RS T w s H) (p : PostE T W st w ((f ρ s).bind k) Q) :
    rdE T W f st H fun u H1 => ∃ w1 v s1, Le w w1 ∧ RE T w1 ρ st ∧ RX T w1 v u ∧ RS T w1 s1 H1 ∧ PostE T W st w1 (k v s1) Q := by
  refine ⟨w, ρ, s, e, r, ?_⟩
  cases h : f ρ s with
  | ok v s1 =>
    rw [h] at p
    exact fun w1 u H1 l x y => ⟨w1, v, s1, l, e.mono l, x, y, PostE.mono l p⟩
  | exc x s1 =>
    rw [h] at p
    exact p
  | stuck =>
    rw [h] at p
    exact p
theorem postA_bind {W : WX} {st : L2.St} {w : Wd} {ρ : Env'} {s : Sto} {H : Hp} {f : FE} {k : Xv → Sto → ResL} {Q : List V → Hp → Prop} (e : RE T w ρ st) (r : RS T w s H) (p : PostA T W st w ((f ρ s).bindA k) Q) :
    rdE T W f st H fun u H1 => ∃ w1 v s1, Le w w1 ∧ RE T w1 ρ st ∧ RX T w1 v u ∧ RS T w1 s1 H1 ∧ PostA T W st w1 (k v s1) Q := by
  refine ⟨w, ρ, s, e, r, ?_⟩
  cases h : f ρ s with
  | ok v s1 =>
    rw [h] at p
    exact fun w1 u H1 l x y => ⟨w1, v, s1, l, e.mono l, x, y, PostA.mono l p⟩
  | exc x s1 =>
    rw [h] at p
    exact p
  | stuck =>
    rw [h] at p
    exact p
theorem postE_bindL {W : WX} {st : L2.St} {w : Wd} {ρ : Env'} {s : Sto} {H : Hp} {f : FA} {k : List Xv → Sto → Res} {Q : VK} (e : RE T w ρ st) (r : RS T w s H) (p : PostE T W st w ((f ρ s).bind k) Q) :
    rdA T W f st H fun u H1 => ∃ w1 v s1, Le w w1 ∧ RE T w1 ρ st ∧ RXs T w1 v u ∧ RS T w1 s1 H1 ∧ PostE T W st w1 (k v s1) Q := by
  refine ⟨w, ρ, s, e, r, ?_⟩
  cases h : f ρ s with
  | ok v s1 =>
    rw [h] at p
    exact fun w1 u H1 l x y => ⟨w1, v, s1, l, e.mono l, x, y, PostE.mono l p⟩
  | exc x s1 =>
    rw [h] at p
    exact p
  | stuck =>
    rw [h] at p
    exact p
theorem postA_bindL {W : WX} {st : L2.St} {w : Wd} {ρ : Env'} {s : Sto} {H : Hp} {f : FA} {k : List Xv → Sto → ResL} {Q : List V → Hp → Prop} (e : RE T w ρ st) (r : RS T w s H) (p : PostA T W st w ((f ρ s).bindA k) Q) :
    rdA T W f st H fun u H1 => ∃ w1 v s1, Le w w1 ∧ RE T w1 ρ st ∧ RXs T w1 v u ∧ RS T w1 s1 H1 ∧ PostA T W st w1 (k v s1) Q := by
  refine ⟨w, ρ, s, e, r, ?_⟩
  cases h : f ρ s with
  | ok v s1 =>
    rw [h] at p
    exact fun w1 u H1 l x y => ⟨w1, v, s1, l, e.mono l, x, y, PostA.mono l p⟩
  | exc x s1 =>
    rw [h] at p
    exact p
  | stuck =>
    rw [h] at p
    exact p
theorem postS_bind {W : WX} {st : L2.St} {w : Wd} {ρ : Env'} {s : Sto} {H : Hp} {f : FE} {k : Xv → Sto → Out} {E : Ends} (e : RE T w ρ st) (r : RS T w s H) (p : PostS T W w ((f ρ s).bindS ρ k) E) :
    rdE T W f st H fun u H1 => ∃ w1 v s1, Le w w1 ∧ RE T w1 ρ st ∧ RX T w1 v u ∧ RS T w1 s1 H1 ∧ PostS T W w1 (k v s1) E := by
  refine ⟨w, ρ, s, e, r, ?_⟩
  cases h : f ρ s with
  | ok v s1 =>
    rw [h] at p
    exact fun w1 u H1 l x y => ⟨w1, v, s1, l, e.mono l, x, y, PostS.mono l p⟩
  | exc x s1 =>
    rw [h] at p
    exact fun w1 c d H1 l x y => p w1 c d st H1 l x (e.mono l) y
  | stuck =>
    rw [h] at p
    exact p
/-- the end of an expression -/
theorem postE_ok {W : WX} {st : L2.St} {w : Wd} {v : Xv} {s : Sto} {Q : VK} {u : V} {H : Hp} (p : PostE T W st w (.ok v s) Q) (x : RX T w v u) (r : RS T w s H) : Q u H := p w u H (.refl _) x r

/-! ### the judgements -/
abbrev PF (T : Tx) (X : Cx) (W : WX) (e : Expr) (f : FE) : Prop := PE X e (rdE T W f)
abbrev PFA (T : Tx) (X : Cx) (W : WX) (es : List Expr) (f : FA) : Prop := PA X es (rdA T W f)
abbrev PFT (T : Tx) (X : Cx) (W : WX) (e : Expr) (f : FE) : Prop := PT X e (rdT T W f)
abbrev PFS (T : Tx) (X : Cx) (W : WX) (st : Stmt) (f : FS) : Prop := PS X st (rdS T W f)
abbrev PFSs (T : Tx) (X : Cx) (W : WX) (st : List Stmt) (f : FS) : Prop := PSs X st (rdS T W f)
theorem PE.imp {X : Cx} {e : Expr} {t t' : TE} (h : PE X e t) (k : ∀ st H Q, t' st H Q → t st H Q) : PE X e t' := ⟨fun pins s σ H Q I q => h.run pins s σ H Q I (k _ _ _ q)⟩
theorem PA.imp {X : Cx} {e : List Expr} {t t' : TA} (h : PA X e t) (k : ∀ st H Q, t' st H Q → t st H Q) : PA X e t' := ⟨fun pos pins s σ H Q I q => h.run pos pins s σ H Q I (k _ _ _ q)⟩
theorem PT.imp {X : Cx} {e : Expr} {t t' : TT} (h : PT X e t) (k : ∀ st H Q, t' st H Q → t st H Q) : PT X e t' := ⟨fun pins s σ H Q I q => h.run pins s σ H Q I (k _ _ _ q)⟩
theorem PS.imp {X : Cx} {e : Stmt} {t t' : TS} (h : PS X e t) (k : ∀ E st H, t' E st H → t E st H) : PS X e t' := ⟨fun pins s σ H E I q => h.run pins s σ H E I (k _ _ _ q)⟩
theorem PSs.imp {X : Cx} {e : List Stmt} {t t' : TS} (h : PSs X e t) (k : ∀ E st H, t' E st H → t E st H) : PSs X e t' := ⟨fun pins s σ H E I q => h.run pins s σ H E I (k _ _ _ q)⟩
end
end FL

set_option Elab.async false
set_option linter.all false
set_option maxRecDepth 100000
set_option maxHeartbeats 4000000
namespace FL
open PySem PySem.Spec PyProof.Rows L2
section
variable {T : Tx}

/-! ### new objects -/
/-- a new list: a changing one (m) or plain data -/
def mkL (m : Bool) (xs : List D) (s : Sto) : Res := if m then .ok (.ref s.length) (s ++ [.lst xs]) else .ok (.d (.lst xs)) s
theorem RS.fresh {w : Wd} {s : Sto} {H : Hp} (r : RS T w s H) {p : Addr} (hp : H p = none) : w.G p = none ∧ w.Z p = none := by
  constructor
  · cases e : w.G p with
    | none => rfl
    | some o => rw [r.g _ _ e] at hp; cases hp
  · cases e : w.Z p with
    | none => rfl
    | some o => rw [r.z _ _ e] at hp; cases hp
/-- a new plain object -/
theorem RS.laidG {w : Wd} {s : Sto} {H : Hp} (r : RS T w s H) {p : Addr} (hp : H p = none) (o : HO) : Le w { w with G := upd w.G p o } ∧ RS T { w with G := upd w.G p o } s (upd H p o) := by
  obtain ⟨g0, z0⟩ := r.fresh hp
  have sg : Same w.G (upd w.G p o) := fun b u e => by rw [upd_ne (ne_of_none e g0)]; exact e
  refine ⟨⟨sg, rfl, [], by simp⟩, ⟨fun b u e => ?_, fun b u e => ?_, fun b u e => ?_, r.len, fun i u a e1 e2 e3 => ?_, r.inj⟩⟩
  · by_cases hb : b = p
    · subst hb
      have e' : upd w.G b o b = some u := e
      rw [upd_same] at e' ⊢
      exact e'
    · have e' : upd w.G p o b = some u := e
      rw [upd_ne hb] at e' ⊢
      exact r.g _ _ e'
  · have hb : b ≠ p := ne_of_none (r.z _ _ e) hp
    rw [upd_ne hb]
    exact r.z _ _ e
  · have hb : b ≠ p := ne_of_none (r.z _ _ e) hp
    show upd w.G p o b = none
    rw [upd_ne hb]
    exact r.gz _ _ e
  · obtain ⟨ho, h1, h2, h3, h4⟩ := r.live i u a e1 e2 e3
    have hb : a ≠ p := ne_of_none h1 hp
    exact ⟨ho, by rw [upd_ne hb]; exact h1, RO.mono sg h2, by show upd w.G p o a = none; rw [upd_ne hb]; exact h3, h4⟩
/-- a new changing object -/
theorem RS.laidO {w : Wd} {s : Sto} {H : Hp} (r : RS T w s H) {p : Addr} (hp : H p = none) {o : HO} {u : O} (ro : RO T w.G u o) : Le w { w with io := w.io ++ [p] } ∧ RS T { w with io := w.io ++ [p] } (s ++ [u]) (upd H p o) := by
  obtain ⟨g0, z0⟩ := r.fresh hp
  have hlen := r.len
  have old : ∀ {i : Nat} {v : O} {a : Addr}, i < s.length → (s ++ [u])[i]? = some v → v ≠ .dead → (w.io ++ [p])[i]? = some a → s[i]? = some v ∧ w.io[i]? = some a := fun {i v a} hi e1 _ e3 => by
    rw [List.getElem?_append_left hi] at e1
    rw [List.getElem?_append_left (by omega)] at e3
    exact ⟨e1, e3⟩
  have new : ∀ {i : Nat} {v : O} {a : Addr}, ¬ i < s.length → (s ++ [u])[i]? = some v → (w.io ++ [p])[i]? = some a → i = s.length ∧ v = u ∧ a = p := fun {i v a} hi e1 e3 => by
    have hb := (List.getElem?_eq_some_iff.mp e1).1
    have hi2 : i = s.length := by simp at hb; omega
    rw [hi2, List.getElem?_append_right (Nat.le_refl _)] at e1
    rw [hi2, List.getElem?_append_right (by omega), hlen] at e3
    simp at e1
    simp at e3
    exact ⟨hi2, e1.symm, e3.symm⟩
  refine ⟨⟨Same.refl _, rfl, [p], rfl⟩, ⟨fun b v e => ?_, fun b v e => ?_, r.gz, by simp [hlen], fun i v a e1 e2 e3 => ?_, fun i j v v' a e1 e2 e3 e4 e5 e6 => ?_⟩⟩
  · rw [upd_ne (ne_of_none (r.g _ _ e) hp)]
    exact r.g _ _ e
  · rw [upd_ne (ne_of_none (r.z _ _ e) hp)]
    exact r.z _ _ e
  · by_cases hi : i < s.length
    · obtain ⟨q1, q2⟩ := old hi e1 e2 e3
      obtain ⟨ho, h1, h2, h3, h4⟩ := r.live i v a q1 e2 q2
      exact ⟨ho, by rw [upd_ne (ne_of_none h1 hp)]; exact h1, h2, h3, h4⟩
    · obtain ⟨_, q2, q3⟩ := new hi e1 e3
      subst q2 q3
      exact ⟨o, upd_same, ro, g0, z0⟩
  · by_cases hi : i < s.length
    · obtain ⟨q1, q2⟩ := old hi e1 e2 e5
      by_cases hj : j < s.length
      · obtain ⟨q3, q4⟩ := old hj e3 e4 e6
        exact r.inj i j v v' a q1 e2 q3 e4 q2 q4
      · obtain ⟨_, _, q3⟩ := new hj e3 e6
        obtain ⟨ho, h1, _⟩ := r.live i v a q1 e2 q2
        rw [q3, hp] at h1
        cases h1
    · obtain ⟨k1, _, k3⟩ := new hi e1 e5
      by_cases hj : j < s.length
      · obtain ⟨q1, q2⟩ := old hj e3 e4 e6
        obtain ⟨ho, h1, _⟩ := r.live j v' a q1 e4 q2
        rw [k3, hp] at h1
        cases h1
      · obtain ⟨k4, _, _⟩ := new hj e3 e6
        rw [k1, k4]
/-- a changing object is changed -/
theorem RS.write {w : Wd} {s : Sto} {H : Hp} (r : RS T w s H) {i : Nat} {a : Addr} {o o' : O} {ho : HO} (e : s[i]? = some o) (ne : o ≠ .dead) (ea : w.io[i]? = some a) (ro : RO T w.G o' ho) : RS T w (s.set i o') (upd H a ho) := by
  obtain ⟨h0, a1, a2, a3, a4⟩ := r.live i o a e ne ea
  have il : i < s.length := (List.getElem?_eq_some_iff.mp e).1
  refine ⟨fun b v q => ?_, fun b v q => ?_, r.gz, by simp [r.len], fun j v b e1 e2 e3 => ?_, fun j k v v' b e1 e2 e3 e4 e5 e6 => ?_⟩
  · rw [upd_ne (ne_of_none q a3)]
    exact r.g _ _ q
  · rw [upd_ne (ne_of_none q a4)]
    exact r.z _ _ q
  · by_cases hj : i = j
    · subst hj
      rw [ea] at e3
      cases e3
      rw [List.getElem?_set_self il] at e1
      cases e1
      exact ⟨ho, upd_same, ro, a3, a4⟩
    · rw [List.getElem?_set_ne hj] at e1
      obtain ⟨hb, q1, q2, q3, q4⟩ := r.live j v b e1 e2 e3
      have hne : b ≠ a := fun z => hj (r.inj i j o v a e ne e1 e2 ea (by rw [← z]; exact e3))
      exact ⟨hb, by rw [upd_ne hne]; exact q1, q2, q3, q4⟩
  · have back : ∀ (m : Nat) (v : O), (s.set i o')[m]? = some v → v ≠ .dead → ∃ v0, s[m]? = some v0 ∧ v0 ≠ .dead := fun m v q1 q2 => by
      by_cases hm : i = m
      · subst hm
        exact ⟨o, e, ne⟩
      · rw [List.getElem?_set_ne hm] at q1
        exact ⟨v, q1, q2⟩
    obtain ⟨v0, k1, k2⟩ := back j v e1 e2
    obtain ⟨v1, k3, k4⟩ := back k v' e3 e4
    exact r.inj j k v0 v1 b k1 k2 k3 k4 e5 e6
theorem mkL_ok {W : WX} {st : L2.St} {w : Wd} {m : Bool} {xs : List D} {vs : List V} {s : Sto} {H : Hp} {Q : VK} (p : PostE T W st w (mkL m xs s) Q) (r : RS T w s H) (x : Rs T w.G xs vs) (a : Addr) (ha : H a = none) : Q (.ref a) (upd H a (.lst vs)) := by
  unfold mkL at p
  cases m with
  | true =>
    rw [if_pos rfl] at p
    obtain ⟨l, r'⟩ := r.laidO ha (u := .lst xs) (o := .lst vs) ⟨vs, rfl, x⟩
    refine p _ _ _ l ⟨a, ?_, rfl⟩ r'
    show (w.io ++ [a])[s.length]? = some a
    rw [← r.len]
    simp
  | false =>
    rw [if_neg Bool.false_ne_true] at p
    obtain ⟨l, r'⟩ := r.laidG ha (.lst vs)
    refine p _ _ _ l ?_ r'
    show R T _ _ _
    unfold R
    exact ⟨a, vs, rfl, upd_same, Rs.mono l.g x⟩
theorem mkT_ok {W : WX} {st : L2.St} {w : Wd} {xs : List D} {vs : List V} {s : Sto} {H : Hp} {Q : VK} (p : PostE T W st w (.ok (.d (.tup xs)) s) Q) (r : RS T w s H) (x : Rs T w.G xs vs) (a : Addr) (ha : H a = none) : Q (.ref a) (upd H a (.tup vs)) := by
  obtain ⟨l, r'⟩ := r.laidG ha (.tup vs)
  refine p _ _ _ l ?_ r'
  show R T _ _ _
  unfold R
  exact ⟨a, vs, rfl, .of upd_same, Rs.mono l.g x⟩

/-! ### looking at values -/
/-- a list's items, a changing one's too -/
def viewL : Xv → Sto → Option (List D)
  | .d (.lst xs), _ => some xs
  | .ref i, s => match s[i]? with | some (.lst xs) => some xs | _ => none
  | _, _ => none
def viewT : Xv → Option (List D)
  | .d (.tup xs) => some xs
  | _ => none
theorem viewL_ok {w : Wd} {s : Sto} {H : Hp} {x : Xv} {u : V} {xs : List D} (r : RS T w s H) (e : RX T w x u) (h : viewL x s = some xs) : ∃ a vs, u = .ref a ∧ H a = some (.lst vs) ∧ Rs T w.G xs vs := by
  unfold viewL at h
  split at h
  · cases h
    have e' : R T w.G (.lst xs) u := e
    unfold R at e'
    obtain ⟨a, vs, e1, e2, e3⟩ := e'
    exact ⟨a, vs, e1, r.g _ _ e2, e3⟩
  · rename_i i s'
    split at h
    · rename_i q
      cases h
      obtain ⟨a, e1, e2⟩ := e
      obtain ⟨ho, h1, ⟨vs, h2, h3⟩, _⟩ := r.live _ _ a q (fun z => nomatch z) e1
      exact ⟨a, vs, e2, by rw [h1, h2], h3⟩
    · cases h
  · cases h
theorem viewT_ok {w : Wd} {s : Sto} {H : Hp} {x : Xv} {u : V} {xs : List D} (r : RS T w s H) (e : RX T w x u) (h : viewT x = some xs) : ∃ a vs, u = .ref a ∧ SqT T.K H a vs ∧ Rs T w.G xs vs := by
  unfold viewT at h
  split at h
  · cases h
    have e' : R T w.G (.tup xs) u := e
    unfold R at e'
    obtain ⟨a, vs, e1, e2, e3⟩ := e'
    exact ⟨a, vs, e1, sqT_mono r.g e2, e3⟩
  · cases h
theorem R_int {G : Hp} {i : Int} {v : V} (h : R T G (.int i) v) : v = .int i := by unfold R at h; exact h
theorem R_str {G : Hp} {i : Str} {v : V} (h : R T G (.str i) v) : v = .str i := by unfold R at h; exact h
theorem R_bl {G : Hp} {i : Bool} {v : V} (h : R T G (.bl i) v) : v = .bl i := by unfold R at h; exact h
theorem R_non {G : Hp} {v : V} (h : R T G .non v) : v = .non := by unfold R at h; exact h
theorem X_int {w : Wd} {i : Int} {v : V} (h : RX T w (.d (.int i)) v) : v = .int i := R_int (T := T) (G := w.G) h
theorem X_str {w : Wd} {i : Str} {v : V} (h : RX T w (.d (.str i)) v) : v = .str i := R_str (T := T) (G := w.G) h
theorem X_bl {w : Wd} {i : Bool} {v : V} (h : RX T w (.d (.bl i)) v) : v = .bl i := R_bl (T := T) (G := w.G) h
theorem X_non {w : Wd} {v : V} (h : RX T w (.d .non) v) : v = .non := R_non (T := T) (G := w.G) h
theorem rX_int {w : Wd} {i : Int} : RX T w (.d (.int i)) (.int i) := by show R T _ _ _; unfold R; rfl
theorem rX_str {w : Wd} {i : Str} : RX T w (.d (.str i)) (.str i) := by show R T _ _ _; unfold R; rfl
theorem rX_bl {w : Wd} {i : Bool} : RX T w (.d (.bl i)) (.bl i) := by show R T _ _ _; unfold R; rfl
theorem rX_non {w : Wd} : RX T w (.d .non) .non := by show R T _ _ _; unfold R; rfl

/-! ### names, constants -/
def varF (i : Nat) : FE := fun ρ s => match ρ[i]? with | some (some v) => .ok v s | _ => .stuck
def litF (d : D) : FE := fun _ s => .ok (.d d) s
theorem rd_var {W : WX} {i : Nat} {st : L2.St} {H : Hp} {Q : VK} (h : rdE T W (varF i) st H Q) : tVar i st H Q := by
  obtain ⟨w, r, s, e, k, p⟩ := h
  unfold varF at p
  split at p
  · rename_i v q
    obtain ⟨u, e1, e2⟩ := e.at_ _ _ q
    exact ⟨u, e1, postE_ok p e2 k⟩
  · exact p.elim
theorem pf_var {X : Cx} {W : WX} (i : Nat) {x : Str} {pos : Pos} (hN : X.N[i]? = some x := by rfl) (hv : Vis X.env.scope x := by first | exact Or.inl rfl | exact Or.inr (Or.inl rfl) | exact Or.inr (Or.inr rfl)) (hd : (x == ("__debug__" : Str)) = false := by decide)
    (hcd : (x == ("__classdict__" : Str)) = false := by decide) : PF T X W (.Name x pos) (varF i) := PE.imp (pe_var hN hv hd hcd) fun _ _ _ => rd_var
theorem rd_lit {W : WX} {d : D} {v : V} (hr : ∀ G, R T G d v) {st : L2.St} {H : Hp} {Q : VK} (h : rdE T W (litF d) st H Q) : tC v st H Q := by
  obtain ⟨w, r, s, e, k, p⟩ := h
  exact postE_ok p (hr _) k
theorem pf_int {X : Cx} {W : WX} {i j pos} : PF T X W (.Constant (.int i) j pos) (litF (.int i)) := PE.imp pe_int fun _ _ _ => rd_lit fun G => by unfold R; rfl
theorem pf_bl {X : Cx} {W : WX} {i j pos} : PF T X W (.Constant (.bool i) j pos) (litF (.bl i)) := PE.imp pe_bl fun _ _ _ => rd_lit fun G => by unfold R; rfl
theorem pf_str {X : Cx} {W : WX} {i j pos} : PF T X W (.Constant (.str i) j pos) (litF (.str i)) := PE.imp pe_str fun _ _ _ => rd_lit fun G => by unfold R; rfl
theorem pf_non {X : Cx} {W : WX} {j pos} : PF T X W (.Constant .none j pos) (litF .non) := PE.imp pe_non fun _ _ _ => rd_lit fun G => by unfold R; rfl
/-- a constant of the module: a number, a text -/
theorem pf_gint {X : Cx} {W : WX} {x : Str} {i : Int} {t : Tok} {pos : Pos} (hm : X.mg x = some (.int i t)) (hg : Gl X x := by rfl) (hd : (x == ("__debug__" : Str)) = false := by decide) : PF T X W (.Name x pos) (litF (.int i)) :=
  PE.imp (pe_glob (v := .int i) hg hm ⟨_, rfl⟩ hd) fun _ _ _ => rd_lit fun G => by unfold R; rfl
theorem pf_gstr {X : Cx} {W : WX} {x : Str} {i : Str} {t : Tok} {pos : Pos} (hm : X.mg x = some (.str i t)) (hg : Gl X x := by rfl) (hd : (x == ("__debug__" : Str)) = false := by decide) : PF T X W (.Name x pos) (litF (.str i)) :=
  PE.imp (pe_glob (v := .str i) hg hm ⟨_, rfl⟩ hd) fun _ _ _ => rd_lit fun G => by unfold R; rfl
theorem pf_gcls {X : Cx} {W : WX} {x : Str} (c : Nat) {pos : Pos} (hm : X.mg x = some (.ref (T.ct c))) (hg : Gl X x := by rfl) (hd : (x == ("__debug__" : Str)) = false := by decide) : PF T X W (.Name x pos) (litF (.cls c)) :=
  PE.imp (pe_glob (v := .ref (T.ct c)) hg hm rfl hd) fun _ _ _ => rd_lit fun G => by unfold R; rfl
theorem pf_gadr {X : Cx} {W : WX} {x : Str} {a : Addr} {pos : Pos} (hm : X.mg x = some (.ref a)) (hg : Gl X x := by rfl) (hd : (x == ("__debug__" : Str)) = false := by decide) : PF T X W (.Name x pos) (litF (.adr a)) :=
  PE.imp (pe_glob (v := .ref a) hg hm rfl hd) fun _ _ _ => rd_lit fun G => by unfold R; rfl
theorem pf_ty {X : Cx} {W : WX} {x : Str} {n : String} {pos : Pos} (hm : X.mg x = none) (hv : bootBuiltins x = some (.type n)) (hg : Gl X x := by rfl) (hn : x ≠ "__name__" := by decide) (hd : (x == ("__debug__" : Str)) = false := by decide) : PF T X W (.Name x pos) (litF (.ty n)) :=
  PE.imp (pe_bltn (v := .ty n) hg hm hv rfl hn hd) fun _ _ _ => rd_lit fun G => by unfold R; rfl

/-! ### operations on two values -/
def op2F (o : Xv → Xv → Sto → Res) (f g : FE) : FE := fun ρ s => (f ρ s).bind fun x s1 => (g ρ s1).bind fun y s2 => o x y s2
/-- the rule r serves o -/
def Op2 (T : Tx) (W : WX) (r : R2) (o : Xv → Xv → Sto → Res) : Prop := ∀ (st : L2.St) (w : Wd) (x y : Xv) (u v : V) (s : Sto) (H : Hp) (Q : VK), RX T w x u → RX T w y v → RS T w s H → PostE T W st w (o x y s) Q → r u v H Q
theorem rdE_mono {W : WX} {f : FE} {st : L2.St} {H : Hp} {Q Q' : VK} (h : rdE T W f st H Q) (k : ∀ u H, Q u H → Q' u H) : rdE T W f st H Q' := by
  obtain ⟨w, ρ, s, e, q, p⟩ := h
  refine ⟨w, ρ, s, e, q, ?_⟩
  revert p
  cases f ρ s with
  | ok v s1 => exact fun p w1 u H1 l x y => k _ _ (p w1 u H1 l x y)
  | exc a b => exact fun p => p
  | stuck => exact fun p => p
theorem rdA_mono {W : WX} {f : FA} {st : L2.St} {H : Hp} {Q Q' : List V → Hp → Prop} (h : rdA T W f st H Q) (k : ∀ u H, Q u H → Q' u H) : rdA T W f st H Q' := by
  obtain ⟨w, ρ, s, e, q, p⟩ := h
  refine ⟨w, ρ, s, e, q, ?_⟩
  revert p
  cases f ρ s with
  | ok v s1 => exact fun p w1 u H1 l x y => k _ _ (p w1 u H1 l x y)
  | exc a b => exact fun p => p
  | stuck => exact fun p => p
theorem rdT_mono {W : WX} {f : FE} {st : L2.St} {H : Hp} {Q Q' : Bool → Hp → Prop} (h : rdT T W f st H Q) (k : ∀ u H, Q u H → Q' u H) : rdT T W f st H Q' := by
  obtain ⟨w, ρ, s, e, q, p⟩ := h
  refine ⟨w, ρ, s, e, q, ?_⟩
  revert p
  cases f ρ s with
  | ok v s1 => exact fun ⟨b, eb, p⟩ => ⟨b, eb, fun w1 H1 l y => k _ _ (p w1 H1 l y)⟩
  | exc a b => exact fun p => p
  | stuck => exact fun p => p
theorem rd_op2 {W : WX} {r : R2} {o : Xv → Xv → Sto → Res} {f g : FE} (h : Op2 T W r o) {st : L2.St} {H : Hp} {Q : VK} (k : rdE T W (op2F o f g) st H Q) : tOp r (rdE T W f) (rdE T W g) st H Q := by
  obtain ⟨w, ρ, s, e, q, p⟩ := k
  exact rdE_mono (postE_bind e q p) fun u H1 ⟨w1, x, s1, l1, e1, x1, r1, p1⟩ => rdE_mono (postE_bind e1 r1 p1) fun v H2 ⟨w2, y, s2, l2, e2, x2, r2, p2⟩ => h st w2 x y u v s2 H2 Q (x1.mono l2) x2 r2 p2
theorem pf_op {X : Cx} {W : WX} {op : Operator} {r : R2} {o : Xv → Xv → Sto → Res} {a b : Expr} {f g : FE} {pos : Pos} (ho : OpR X (binaryOp op) r) (h : Op2 T W r o) (ha : PF T X W a f) (hb : PF T X W b g) : PF T X W (.BinOp a op b pos) (op2F o f g) := PE.imp (pe_op ho ha hb) fun _ _ _ => rd_op2 h
theorem pf_cmp {X : Cx} {W : WX} {op : CmpOp} {r : R2} {o : Xv → Xv → Sto → Res} {a b : Expr} {f g : FE} {pos : Pos} (ho : OpR X (compareOp op) r) (h : Op2 T W r o) (ha : PF T X W a f) (hb : PF T X W b g) (hm : behindInMarks op b = false) : PF T X W (.Compare a [op] [b] pos) (op2F o f g) := PE.imp (pe_cmpR ho ha hb hm) fun _ _ _ => rd_op2 h

/-! ### tests -/
theorem rdT_of {W : WX} {f : FE} {st : L2.St} {H : Hp} {Q : Bool → Hp → Prop} (h : rdT T W f st H Q) : rdE T W f st H fun u H1 => ∃ w v s b, RX T w v u ∧ RS T w s H1 ∧ truth v s = some b ∧ Q b H1 := by
  obtain ⟨w, ρ, s, e, q, p⟩ := h
  refine ⟨w, ρ, s, e, q, ?_⟩
  revert p
  cases f ρ s with
  | ok v s1 => exact fun ⟨b, eb, p⟩ w1 u H1 l x y => ⟨w1, v, s1, b, x, y, eb, p w1 H1 l y⟩
  | exc a b => exact fun p => p
  | stuck => exact fun p => p
theorem truth_ok {w : Wd} {v : Xv} {u : V} {s : Sto} {H : Hp} {b : Bool} (x : RX T w v u) (r : RS T w s H) (e : truth v s = some b) : TruV T.K u H b := by
  unfold truth at e
  split at e
  · cases e
    cases X_non x
    rfl
  · cases e
    cases X_bl x
    rfl
  · cases e
    cases X_int x
    rfl
  · rename_i s' xs
    cases e
    obtain ⟨a, vs, e1, e2, e3⟩ := viewT_ok (xs := xs) r x rfl
    subst e1
    refine .inr (.inl ⟨vs, e2, ?_⟩)
    have hl := e3.length
    cases xs with
    | nil => cases vs with
      | nil => rfl
      | cons _ _ => simp at hl
    | cons _ _ => cases vs with
      | nil => simp at hl
      | cons _ _ => rfl
  · rename_i s' xs
    cases e
    obtain ⟨a, vs, e1, e2, e3⟩ := viewL_ok (xs := xs) r x rfl
    subst e1
    refine .inl ⟨vs, .of e2, ?_⟩
    have hl := e3.length
    cases xs with
    | nil => cases vs with
      | nil => rfl
      | cons _ _ => simp at hl
    | cons _ _ => cases vs with
      | nil => simp at hl
      | cons _ _ => rfl
  · cases e
/-- any expression, by its value's truth -/
theorem pft_of {X : Cx} {W : WX} {e : Expr} {f : FE} (hK : X.K = T.K) (h : PF T X W e f) (he : ∀ whole, isTrue e X.env whole = (do let v ← whole; standAt e.pos; holding [v] (truthy v)) := by intro _; rfl) : PFT T X W e f :=
  PT.imp (pt_truth h he) fun st H Q k => rdE_mono (rdT_of k) fun u H1 ⟨w, v, s, b, x, r, e, q⟩ => ⟨b, by rw [hK]; exact truth_ok x r e, q⟩
theorem truth_bl {w : Wd} {v : Xv} {s : Sto} {b : Bool} {k : Bool} (x : RX T w v (.bl k)) (e : truth v s = some b) : b = k := by
  unfold truth at e
  split at e
  · cases X_non x
  · cases e
    cases X_bl x
    rfl
  · cases X_int x
  · have x' : R T _ _ _ := x
    unfold R at x'
    obtain ⟨a, vs, e1, _⟩ := x'
    cases e1
  · have x' : R T _ _ _ := x
    unfold R at x'
    obtain ⟨a, vs, e1, _⟩ := x'
    cases e1
  · cases e
/-- a comparison's answer is a truth value -/
def Bl2 (o : Xv → Xv → Sto → Res) : Prop := ∀ x y s, (∃ b s', o x y s = .ok (.d (.bl b)) s') ∨ o x y s = .stuck
theorem pft_cmp {X : Cx} {W : WX} {op : CmpOp} {r : R2} {o : Xv → Xv → Sto → Res} {a b : Expr} {f g : FE} {pos : Pos} (ho : OpR X (compareOp op) r) (h : Op2 T W r o) (hb' : Bl2 o) (ha : PF T X W a f) (hb : PF T X W b g) (hm : behindInMarks op b = false) : PFT T X W (.Compare a [op] [b] pos) (op2F o f g) := by
  refine PT.imp (pt_cmpR ho ha hb hm) fun st H Q k => ?_
  have k' : rdE T W (op2F o f g) st H fun u H1 => ∃ k, u = .bl k ∧ Q k H1 := by
    obtain ⟨w, ρ, s, e, q, p⟩ := k
    refine ⟨w, ρ, s, e, q, ?_⟩
    revert p
    unfold op2F
    cases f ρ s with
    | exc a b => exact fun p => p
    | stuck => exact fun p => p
    | ok x s1 =>
      show PostT T W st w ((g ρ s1).bind fun y s2 => o x y s2) Q → PostE T W st w ((g ρ s1).bind fun y s2 => o x y s2) _
      cases g ρ s1 with
      | exc a b => exact fun p => p
      | stuck => exact fun p => p
      | ok y s2 =>
        show PostT T W st w (o x y s2) Q → PostE T W st w (o x y s2) _
        rcases hb' x y s2 with ⟨b, s', e⟩ | e
        · rw [e]
          rintro ⟨b', e', p⟩ w1 u H1 l x1 y1
          cases e'
          exact ⟨b, X_bl x1, p w1 H1 l y1⟩
        · rw [e]
          exact fun p => p
  exact rd_op2 h k'
end
end FL

set_option Elab.async false
set_option linter.all false
set_option maxRecDepth 100000
set_option maxHeartbeats 4000000
namespace FL
open PySem PySem.Spec PyProof.Rows L2
section
variable {T : Tx}
/-! ### arithmetic -/
def okI (i : Int) (s : Sto) : Res := .ok (.d (.int i)) s
def okB (b : Bool) (s : Sto) : Res := .ok (.d (.bl b)) s
theorem okI_q {W : WX} {st : L2.St} {w : Wd} {s : Sto} {H : Hp} {Q : VK} {i : Int} (p : PostE T W st w (okI i s) Q) (r : RS T w s H) : Q (.int i) H := postE_ok p rX_int r
theorem okB_q {W : WX} {st : L2.St} {w : Wd} {s : Sto} {H : Hp} {Q : VK} {i : Bool} (p : PostE T W st w (okB i s) Q) (r : RS T w s H) : Q (.bl i) H := postE_ok p rX_bl r
/-- a sum: numbers, texts, lists, tuples -/
def addX (m : Bool) (x y : Xv) (s : Sto) : Res := match x, y with
  | .d (.int i), .d (.int j) => okI (i + j) s
  | .d (.str a), .d (.str b) => if a.length + b.length ≤ sizeLine then .ok (.d (.str (a ++ b))) s else .stuck
  | .d (.tup a), .d (.tup b) => if a.length + b.length ≤ sizeLine then .ok (.d (.tup (a ++ b))) s else .stuck
  | x, y => match viewL x s, viewL y s with
    | some a, some b => if a.length + b.length ≤ sizeLine then mkL m (a ++ b) s else .stuck
    | _, _ => .stuck
def rAddI : R2 := rI0 fun i j => .int (i + j)
def rAddS : R2 := fun x y H Q => ∃ i j, x = .str i ∧ y = .str j ∧ i.length + j.length ≤ sizeLine ∧ Q (.str (i ++ j)) H
theorem op_addAll {X : Cx} : OpR X (binaryOp .Add) (fun x y H Q => rAddI x y H Q ∨ rAddS x y H Q ∨ rCatA X.K x y H Q ∨ rCat x y H Q) := op_add.or (op_add_str.or (op_catA.or op_cat))
theorem add_ok {W : WX} {m : Bool} : Op2 T W (fun x y H Q => rAddI x y H Q ∨ rAddS x y H Q ∨ rCatA T.K x y H Q ∨ rCat x y H Q) (addX m) := by
  intro st w x y u v s H Q hx hy r p
  unfold addX at p
  split at p
  · cases X_int hx
    cases X_int hy
    exact .inl ⟨_, _, rfl, rfl, okI_q p r⟩
  · cases X_str hx
    cases X_str hy
    split at p
    · exact .inr (.inl ⟨_, _, rfl, rfl, by assumption, postE_ok p rX_str r⟩)
    · exact p.elim
  · rename_i a b
    split at p
    · rename_i hl
      obtain ⟨pa, va, e1, e2, e3⟩ := viewT_ok (xs := a) r hx rfl
      obtain ⟨pb, vb, f1, f2, f3⟩ := viewT_ok (xs := b) r hy rfl
      subst e1 f1
      have l1 := e3.length
      have l2 := f3.length
      refine .inr (.inr (.inl ⟨pa, pb, va, vb, rfl, rfl, e2, f2, by rw [← l1, ← l2]; exact hl, fun z => ?_, fun _ z => ?_, fun _ _ q hq => ?_⟩))
      · subst z
        simp at l1
        subst l1
        exact postE_ok p hy r
      · subst z
        simp at l2
        subst l2
        rw [List.append_nil] at p
        exact postE_ok p hx r
      · exact mkT_ok p r (e3.append f3) q hq
    · exact p.elim
  · split at p
    · rename_i a b h1 h2
      split at p
      · rename_i hl
        obtain ⟨pa, va, e1, e2, e3⟩ := viewL_ok r hx h1
        obtain ⟨pb, vb, f1, f2, f3⟩ := viewL_ok r hy h2
        subst e1 f1
        have l1 := e3.length
        have l2 := f3.length
        exact .inr (.inr (.inr ⟨pa, pb, va, vb, rfl, rfl, e2, f2, by rw [← l1, ← l2]; exact hl, fun q hq => mkL_ok p r (e3.append f3) q hq⟩))
      · exact p.elim
    · exact p.elim
theorem pf_add {X : Cx} {W : WX} {a b : Expr} {f g : FE} {pos : Pos} (m : Bool) (hK : X.K = T.K) (ha : PF T X W a f) (hb : PF T X W b g) : PF T X W (.BinOp a .Add b pos) (op2F (addX m) f g) :=
  pf_op op_addAll (by rw [hK]; exact add_ok) ha hb
def int2 (c : Int → Int → Bool) (k : Int → Int → D) (x y : Xv) (s : Sto) : Res := match x, y with
  | .d (.int i), .d (.int j) => if c i j = true then .ok (.d (k i j)) s else .stuck
  | _, _ => .stuck
theorem int2_ok {W : WX} {c : Int → Int → Bool} {C : Int → Int → Prop} {k : Int → Int → Int} (hC : ∀ i j, c i j = true → C i j) : Op2 T W (rI C fun i j => .int (k i j)) (int2 c fun i j => .int (k i j)) := by
  intro st w x y u v s H Q hx hy r p
  unfold int2 at p
  split at p
  · cases X_int hx
    cases X_int hy
    split at p
    · rename_i h
      exact ⟨_, _, rfl, rfl, hC _ _ h, postE_ok p rX_int r⟩
    · exact p.elim
  · exact p.elim
def cYes (_ _ : Int) : Bool := true
def subX : Xv → Xv → Sto → Res := int2 cYes fun i j => .int (i - j)
theorem op_sub' {X : Cx} : OpR X (binaryOp .Sub) (rI (fun _ _ => True) fun i j => .int (i - j)) := opI fun _ _ _ _ _ _ _ _ q => sub_int q
theorem pf_sub {X : Cx} {W : WX} {a b : Expr} {f g : FE} {pos : Pos} (ha : PF T X W a f) (hb : PF T X W b g) : PF T X W (.BinOp a .Sub b pos) (op2F subX f g) := pf_op op_sub' (int2_ok fun _ _ _ => True.intro) ha hb
def cDiv (_ j : Int) : Bool := decide (0 < j) && decide (j.natAbs.log2 < 9000)
def fdivX : Xv → Xv → Sto → Res := int2 cDiv fun i j => .int (i / j)
theorem pf_fdiv {X : Cx} {W : WX} {a b : Expr} {f g : FE} {pos : Pos} (ha : PF T X W a f) (hb : PF T X W b g) : PF T X W (.BinOp a .FloorDiv b pos) (op2F fdivX f g) :=
  pf_op op_fdivW (int2_ok fun i j h => by
    unfold cDiv at h
    rw [Bool.and_eq_true] at h
    exact ⟨of_decide_eq_true h.1, of_decide_eq_true h.2⟩) ha hb
def cPos (_ j : Int) : Bool := decide (0 < j)
def modX : Xv → Xv → Sto → Res := int2 cPos fun i j => .int (i % j)
theorem pf_mod {X : Cx} {W : WX} {a b : Expr} {f g : FE} {pos : Pos} (ha : PF T X W a f) (hb : PF T X W b g) : PF T X W (.BinOp a .Mod b pos) (op2F modX f g) := pf_op op_mod (int2_ok fun _ _ h => of_decide_eq_true h) ha hb
def CPw (i j : Int) : Prop := 0 ≤ j ∧ (Builtin.Int.intBits i : Int) * j ≤ 2 ^ 27
def cPow (i j : Int) : Bool := decide (0 ≤ j) && decide ((Builtin.Int.intBits i : Int) * j ≤ 2 ^ 27)
def powX : Xv → Xv → Sto → Res := int2 cPow fun i j => .int (i ^ j.toNat)
theorem op_powW {X : Cx} : OpR X (binaryOp .Pow) (rI CPw fun i j => .int (i ^ j.toNat)) := opI fun _ _ _ _ _ _ _ hc q => pow_int hc.1 hc.2 q
theorem pf_pow {X : Cx} {W : WX} {a b : Expr} {f g : FE} {pos : Pos} (ha : PF T X W a f) (hb : PF T X W b g) : PF T X W (.BinOp a .Pow b pos) (op2F powX f g) :=
  pf_op op_powW (int2_ok fun i j h => by
    unfold cPow at h
    rw [Bool.and_eq_true] at h
    exact ⟨of_decide_eq_true h.1, of_decide_eq_true h.2⟩) ha hb

/-! ### products -/
theorem tuple_mulS (l : Addr) (items : Array Value) (n : Nat) (sl : Array (Option Value)) (dd : Option Addr) (x : Int) (u : Tok) (c0 : (decide (x < -(2 ^ 63)) || decide (x ≥ 2 ^ 63)) = false) (c1 : (items.isEmpty || x == 1) = true) :
    Meets (Builtin.«tuple.__mul__» ⟨[.ref l, .int x u], []⟩) (fun _ R s => s.heap.get? l = some { cls := .type "tuple", dict := dd, data := .seq items n, slots := sl } ∧
      R (.ok (.ret (Value.ref l))) { s with heap := s.heap, toks := s.toks }) :=
  .of_wp fun prog w A R s h => by
    obtain ⟨hp, g, d, tk, os⟩ := s
    obtain ⟨hl, h⟩ := h
    have f1 := AutoSeq1.idx_int
    wp_walk using wpAny_loadPart' hl
    repeat (first
      | (refine wpAny_ite_false (decide_eq_false (by rw [c0]; exact Bool.false_ne_true)) ?_; wp_walk using wpAny_loadPart' hl)
      | (refine wpAny_ite_true (decide_eq_true c1) ?_; wp_walk using wpAny_loadPart' hl))
    exact ⟨_, rfl, h⟩
theorem tuple_mulE (l : Addr) (items : Array Value) (n : Nat) (sl : Array (Option Value)) (dd : Option Addr) (x : Int) (u : Tok) (c0 : (decide (x < -(2 ^ 63)) || decide (x ≥ 2 ^ 63)) = false) (c1 : (items.isEmpty || x == 1) = false) (c2 : (decide (x ≤ 0) || items.isEmpty) = true) :
    Meets (Builtin.«tuple.__mul__» ⟨[.ref l, .int x u], []⟩) (fun _ R s => s.heap.get? l = some { cls := .type "tuple", dict := dd, data := .seq items n, slots := sl } ∧
      R (.ok (.ret (Value.ref s.heap.objs.size))) { s with heap := s.heap.push { cls := Value.type "tuple", data := Data.seq #[] }, toks := s.toks }) :=
  .of_wp fun prog w A R s h => by
    obtain ⟨hp, g, d, tk, os⟩ := s
    obtain ⟨hl, h⟩ := h
    have f1 := AutoSeq1.idx_int
    wp_walk using wpAny_loadPart' hl
    repeat (first
      | (refine wpAny_ite_false (decide_eq_false (by rw [c0]; exact Bool.false_ne_true)) ?_; wp_walk using wpAny_loadPart' hl)
      | (refine wpAny_ite_false (decide_eq_false (by rw [c1]; exact Bool.false_ne_true)) ?_; wp_walk using wpAny_loadPart' hl)
      | (refine wpAny_ite_true (decide_eq_true c2) ?_; wp_walk using wpAny_loadPart' hl))
    exact ⟨_, rfl, h⟩
end
end FL

set_option Elab.async false
set_option linter.all false
set_option maxRecDepth 100000
set_option maxHeartbeats 4000000
namespace FL
open PySem PySem.Spec PyProof.Rows L2
section
variable {X : Cx}
def rRepA (K : PySem.W.Frag) : R2 := fun x y H Q => ∃ l k xs, x = .ref l ∧ y = .int k ∧ SqT K H l xs ∧ -1000 ≤ k ∧ k ≤ 1000 ∧ xs.length ≤ 1000 ∧
  ((xs = [] ∨ k = 1) → Q (.ref l) H) ∧ (¬ (xs = [] ∨ k = 1) → ∀ p, H p = none → Q (.ref p) (upd H p (.tup (List.replicate k.toNat xs).flatten)))
theorem op_repA : OpR X (binaryOp .Mult) (rRepA X.K) := by
  intro pins s σ H x y v u Q I rx ry h
  obtain ⟨l, k, xs, rfl, rfl, hT, h1, h2, hz, q1, q2⟩ := h
  by_cases hs : xs = [] ∨ k = 1
  · cases rx
    obtain ⟨t, rfl⟩ := ry
    obtain ⟨its, r, ⟨⟨cls, dd, data, sl⟩, ho, hc, n, hd⟩, hs2⟩ := I.tuple hT
    simp only at hc hd
    subst hc hd
    have c0 : (decide (k < -(2 ^ 63)) || decide (k ≥ 2 ^ 63)) = false := by
      rw [decide_eq_false (by omega), decide_eq_false (by omega)] <;> rfl
    have c1 : (its.toArray.isEmpty || k == 1) = true := by
      rcases hs with e | e
      · subst e
        cases r
        rfl
      · rw [e]
        simp
    refine wpAny_binaryOp_repeat_ref (T := "tuple") (U := "int") (by decide) ⟨_, ho, rfl⟩ (fun s' => typeIs_int s' k t) noFill_tuple_mul F.fills_int_mul F.slot_int_rmul repeat_tuple F.slot_int_index.lookup
      (call_meets F.slot_int_rmul (typeIs_int s k t) F.entry_int_rmul (F.args_int_rmul_2 _ _) (int_rmul_tuple k t l its.toArray n dd sl)
        ⟨ho, rfl, ⟨_, ho, rfl⟩, call_meets F.slot_tuple_mul ⟨_, ho, rfl⟩ F.entry_tuple_mul (F.args_tuple_mul_2 _ _) (tuple_mulS l its.toArray n sl dd k t c0 c1) ⟨ho, ?_⟩⟩)
    exact ⟨.ref l, H, I.tok _, rfl, q1 hs⟩
  · by_cases hk : k ≤ 0
    · cases rx
      obtain ⟨t, rfl⟩ := ry
      obtain ⟨its, r, ⟨⟨cls, dd, data, sl⟩, ho, hc, n, hd⟩, hs2⟩ := I.tuple hT
      simp only at hc hd
      subst hc hd
      have hn : its ≠ [] := fun e => hs (.inl (by subst e; cases r; rfl))
      have c0 : (decide (k < -(2 ^ 63)) || decide (k ≥ 2 ^ 63)) = false := by
        rw [decide_eq_false (by omega), decide_eq_false (by omega)] <;> rfl
      have hi : its.toArray.isEmpty = false := by
        cases its with
        | nil => exact absurd rfl hn
        | cons a b => rfl
      have c1 : (its.toArray.isEmpty || k == 1) = false := by
        rw [hi, Bool.false_or]
        exact beq_eq_false_iff_ne.mpr (by omega)
      have c2 : (decide (k ≤ 0) || its.toArray.isEmpty) = true := by
        rw [decide_eq_true hk]
        rfl
      have e0 : (List.replicate k.toNat xs).flatten = ([] : List V) := by
        rw [show k.toNat = 0 by omega]
        rfl
      have q3 := q2 hs
      rw [e0] at q3
      refine wpAny_binaryOp_repeat_ref (T := "tuple") (U := "int") (by decide) ⟨_, ho, rfl⟩ (fun s' => typeIs_int s' k t) noFill_tuple_mul F.fills_int_mul F.slot_int_rmul repeat_tuple F.slot_int_index.lookup
        (call_meets F.slot_int_rmul (typeIs_int s k t) F.entry_int_rmul (F.args_int_rmul_2 _ _) (int_rmul_tuple k t l its.toArray n dd sl)
          ⟨ho, rfl, ⟨_, ho, rfl⟩, call_meets F.slot_tuple_mul ⟨_, ho, rfl⟩ F.entry_tuple_mul (F.args_tuple_mul_2 _ _) (tuple_mulE l its.toArray n sl dd k t c0 c1 c2) ⟨ho, ?_⟩⟩)
      refine ⟨.ref s.heap.objs.size, _, I.laid (t' := s.toks) (o := .tup []) (fun b ob q => Heap.get?_push_of_some _ q) (Nat.le_refl _) ?_, rfl, q3 _ (I.hok.fresh (Nat.le_refl _))⟩
      exact ⟨Nat.zero_le _, [], .nil, IsTup.new _ _⟩
    · exact op_repT pins s σ H _ _ v u Q I rx ry ⟨l, k, xs, rfl, rfl, hT, fun e => hs (.inl e), by
        have : k ≠ 1 := fun e => hs (.inr e)
        omega, h2, hz, q2 hs⟩
end
section
variable {T : Tx}
theorem Rs.rep {G : Hp} {xs : List D} {vs : List V} (h : Rs T G xs vs) : ∀ k : Nat, Rs T G (List.replicate k xs).flatten (List.replicate k vs).flatten
  | 0 => by show Rs T G [] []; unfold Rs; rfl
  | k + 1 => by
    rw [List.replicate_succ, List.flatten_cons, List.replicate_succ, List.flatten_cons]
    exact h.append (Rs.rep h k)
/-- a product: numbers; a list or a tuple some times -/
def mulX (m : Bool) (x y : Xv) (s : Sto) : Res := match x, y with
  | .d (.int i), .d (.int j) => if i.natAbs.log2 + j.natAbs.log2 < 1000000 then okI (i * j) s else .stuck
  | .d (.tup a), .d (.int k) => if -1000 ≤ k ∧ k ≤ 1000 ∧ a.length ≤ 1000 then .ok (.d (.tup (List.replicate k.toNat a).flatten)) s else .stuck
  | x, .d (.int k) => match viewL x s with
    | some a => if -1000000 ≤ k ∧ k ≤ 1000000 ∧ a.length * k.toNat ≤ 1000000 then mkL m (List.replicate k.toNat a).flatten s else .stuck
    | _ => .stuck
  | _, _ => .stuck
def rMulI : R2 := rI CMulW fun i j => .int (i * j)
theorem op_mulAll {X : Cx} : OpR X (binaryOp .Mult) (fun x y H Q => rMulI x y H Q ∨ rRepA X.K x y H Q ∨ rRep x y H Q) := op_mulW.or (op_repA.or op_rep)
theorem len_rep {α : Type} (xs : List α) (k : Nat) : (List.replicate k xs).flatten.length = k * xs.length := PyProof.Rows.lm_len_rep_flat _ _
theorem mul_ok {W : WX} {m : Bool} : Op2 T W (fun x y H Q => rMulI x y H Q ∨ rRepA T.K x y H Q ∨ rRep x y H Q) (mulX m) := by
  intro st w x y u v s H Q hx hy r p
  unfold mulX at p
  split at p
  · cases X_int hx
    cases X_int hy
    split at p
    · exact .inl ⟨_, _, rfl, rfl, by assumption, okI_q p r⟩
    · exact p.elim
  · rename_i a k
    cases X_int hy
    split at p
    · rename_i hb
      obtain ⟨pa, va, e1, e2, e3⟩ := viewT_ok (xs := a) r hx rfl
      subst e1
      have l1 := e3.length
      refine .inr (.inl ⟨pa, k, va, rfl, rfl, e2, hb.1, hb.2.1, by rw [← l1]; exact hb.2.2, fun z => ?_, fun z q hq => mkT_ok p r (e3.rep k.toNat) q hq⟩)
      have e : (List.replicate k.toNat a).flatten = a := by
        rcases z with z | z
        · subst z
          have ha : a = [] := List.eq_nil_of_length_eq_zero l1
          subst ha
          simp
        · subst z
          simp
      rw [e] at p
      exact postE_ok p hx r
    · exact p.elim
  · rename_i k _ _
    cases X_int hy
    split at p
    · rename_i a h1
      split at p
      · rename_i hb
        obtain ⟨pa, va, e1, e2, e3⟩ := viewL_ok r hx h1
        subst e1
        have l1 := e3.length
        refine .inr (.inr ⟨pa, k, va, rfl, rfl, e2, by omega, by omega, ?_, fun q hq => mkL_ok p r (e3.rep k.toNat) q hq⟩)
        rw [← l1, sizeLine_eq]
        omega
      · exact p.elim
    · exact p.elim
  · exact p.elim
theorem pf_mul {X : Cx} {W : WX} {a b : Expr} {f g : FE} {pos : Pos} (m : Bool) (hK : X.K = T.K) (ha : PF T X W a f) (hb : PF T X W b g) : PF T X W (.BinOp a .Mult b pos) (op2F (mulX m) f g) :=
  pf_op op_mulAll (by rw [hK]; exact mul_ok) ha hb
/-- -a -/
def negF (f : FE) : FE := fun ρ s => (f ρ s).bind fun x s1 => match x with | .d (.int i) => okI (-i) s1 | _ => .stuck
theorem pf_neg {X : Cx} {W : WX} {a : Expr} {f : FE} {pos : Pos} (ha : PF T X W a f) : PF T X W (.UnaryOp .USub a pos) (negF f) :=
  PE.imp (pe_un un_neg ha) fun st H Q ⟨w, ρ, s, e, q, p⟩ => rdE_mono (postE_bind e q p) fun u H1 ⟨w1, x, s1, l1, e1, x1, r1, p1⟩ => by
    split at p1
    · cases X_int x1
      exact ⟨_, rfl, okI_q p1 r1⟩
    · exact p1.elim

/-! ### comparisons -/
theorem int2B_ok {W : WX} {k : Int → Int → Bool} : Op2 T W (rI0 fun i j => .bl (k i j)) (int2 cYes fun i j => .bl (k i j)) := by
  intro st w x y u v s H Q hx hy r p
  unfold int2 at p
  split at p
  · cases X_int hx
    cases X_int hy
    have p' := (if_pos (show cYes _ _ = true from rfl)) ▸ p
    exact ⟨_, _, rfl, rfl, postE_ok p' rX_bl r⟩
  · exact p.elim
theorem int2_bl {c : Int → Int → Bool} {k : Int → Int → Bool} : Bl2 (int2 c fun i j => .bl (k i j)) := fun x y s => by
  unfold int2
  split
  · split
    · exact .inl ⟨_, _, rfl⟩
    · exact .inr rfl
  · exact .inr rfl
def ltX : Xv → Xv → Sto → Res := int2 cYes fun i j => .bl (decide (i < j))
def leX : Xv → Xv → Sto → Res := int2 cYes fun i j => .bl (decide (i ≤ j))
def gtX : Xv → Xv → Sto → Res := int2 cYes fun i j => .bl (decide (j < i))
def geX : Xv → Xv → Sto → Res := int2 cYes fun i j => .bl (decide (j ≤ i))
/-! the plain data of a datum -/
mutual
def toP : D → PyData
  | .bl b => .bool b
  | .int i => .int i
  | .str x => .str x
  | .tup xs => .tuple (toPs xs)
  | .lst xs => .list (toPs xs)
  | _ => .none
def toPs : List D → List PyData
  | [] => []
  | d :: ds => toP d :: toPs ds
end
/-- plain data of little depth -/
def flatS : Nat → D → Bool
  | _, .non => true
  | _, .bl _ => true
  | _, .int _ => true
  | _, .str x => PyData.canLay0 (.str x)
  | n + 1, .tup xs => xs.all (flatS n)
  | n + 1, .lst xs => xs.all (flatS n)
  | _, _ => false
theorem toPs_lay : ∀ {xs : List D}, (∀ x ∈ xs, (toP x).canLay0 = true) → PyData.canLayAll0 (toPs xs) = true
  | [], _ => by unfold toPs; rfl
  | d :: ds, h => by
    unfold toPs
    unfold PyData.canLayAll0
    rw [h d (List.mem_cons_self ..), toPs_lay fun x hx => h x (List.mem_cons_of_mem _ hx)]
    rfl
theorem toPs_dep {n : Nat} : ∀ {xs : List D}, (∀ x ∈ xs, (toP x).depth ≤ n) → PyData.depthAll (toPs xs) ≤ n
  | [], _ => by unfold toPs; unfold PyData.depthAll; exact Nat.zero_le _
  | d :: ds, h => by
    unfold toPs
    unfold PyData.depthAll
    exact Nat.max_le.mpr ⟨h d (List.mem_cons_self ..), toPs_dep fun x hx => h x (List.mem_cons_of_mem _ hx)⟩
theorem flatS_ok : ∀ {n : Nat} {d : D}, flatS n d = true → (toP d).canLay0 = true ∧ (toP d).depth ≤ n
  | n, .non, _ => by unfold toP; unfold PyData.canLay0 PyData.depth; exact ⟨rfl, Nat.zero_le _⟩
  | n, .bl _, _ => by unfold toP; unfold PyData.canLay0 PyData.depth; exact ⟨rfl, Nat.zero_le _⟩
  | n, .int _, _ => by unfold toP; unfold PyData.canLay0 PyData.depth; exact ⟨rfl, Nat.zero_le _⟩
  | n, .str x, h => by
    have h' : PyData.canLay0 (.str x) = true := by cases n <;> exact h
    unfold toP
    refine ⟨h', ?_⟩
    unfold PyData.depth
    exact Nat.zero_le _
  | 0, .tup xs, h => by cases h
  | 0, .lst xs, h => by cases h
  | n + 1, .tup xs, h => by
    have h' : xs.all (flatS n) = true := h
    rw [List.all_eq_true] at h'
    unfold toP
    unfold PyData.canLay0 PyData.depth
    exact ⟨toPs_lay fun x hx => (flatS_ok (h' x hx)).1, Nat.succ_le_succ (toPs_dep fun x hx => (flatS_ok (h' x hx)).2)⟩
  | n + 1, .lst xs, h => by
    have h' : xs.all (flatS n) = true := h
    rw [List.all_eq_true] at h'
    unfold toP
    unfold PyData.canLay0 PyData.depth
    exact ⟨toPs_lay fun x hx => (flatS_ok (h' x hx)).1, Nat.succ_le_succ (toPs_dep fun x hx => (flatS_ok (h' x hx)).2)⟩
  | n, .ty _, h => by cases n <;> cases h
  | n, .adr _, h => by cases n <;> cases h
  | n, .cls _, h => by cases n <;> cases h
  | n, .scr _, h => by cases n <;> cases h
  | n, .obj _ _ _, h => by cases n <;> cases h
  | n, .exc _ _ _, h => by cases n <;> cases h
theorem flatS_shaped {d : D} (h : flatS 32 d = true) : SeqAt.shaped (toP d) = true := by
  obtain ⟨h1, h2⟩ := flatS_ok h
  unfold SeqAt.shaped
  rw [h1, decide_eq_true (show (toP d).depth ≤ 64 by omega)]
  rfl
mutual
theorem dp_of {K : PySem.W.Frag} {G H : Hp} (hK : K = T.K) (g : Same G H) : ∀ {n : Nat} {d : D} {v : V}, flatS n d = true → R T G d v → Dp K H v (toP d)
  | n, .non, _, _, e => by unfold R at e; subst e; unfold toP; exact .non
  | n, .bl _, _, _, e => by unfold R at e; subst e; unfold toP; exact .bl _
  | n, .int _, _, _, e => by unfold R at e; subst e; unfold toP; exact .int _
  | n, .str x, _, _, e => by unfold R at e; subst e; unfold toP; exact .str _
  | 0, .tup xs, _, h, _ => by cases h
  | 0, .lst xs, _, h, _ => by cases h
  | n + 1, .tup xs, v, h, e => by
    unfold R at e
    obtain ⟨a, vs, e1, e2, e3⟩ := e
    subst e1 hK
    unfold toP
    exact .tup (sqT_mono g e2) (dps_of rfl g (n := n) (List.all_eq_true.mp h) e3)
  | n + 1, .lst xs, v, h, e => by
    unfold R at e
    obtain ⟨a, vs, e1, e2, e3⟩ := e
    subst e1 hK
    unfold toP
    exact .lst (.of (g _ _ e2)) (dps_of rfl g (n := n) (List.all_eq_true.mp h) e3)
  | n, .ty _, _, h, _ => by cases n <;> cases h
  | n, .adr _, _, h, _ => by cases n <;> cases h
  | n, .cls _, _, h, _ => by cases n <;> cases h
  | n, .scr _, _, h, _ => by cases n <;> cases h
  | n, .obj _ _ _, _, h, _ => by cases n <;> cases h
  | n, .exc _ _ _, _, h, _ => by cases n <;> cases h
theorem dps_of {K : PySem.W.Frag} {G H : Hp} (hK : K = T.K) (g : Same G H) : ∀ {n : Nat} {ds : List D} {vs : List V}, (∀ x ∈ ds, flatS n x = true) → Rs T G ds vs → DpAll K H vs (toPs ds)
  | n, [], vs, _, e => by
    unfold Rs at e
    subst e
    unfold toPs
    exact .nil
  | n, d :: ds, vs, h, e => by
    unfold Rs at e
    obtain ⟨v, r, e1, e2, e3⟩ := e
    subst e1
    unfold toPs
    exact .cons (dp_of hK g (h d (List.mem_cons_self ..)) e2) (dps_of hK g (fun x hx => h x (List.mem_cons_of_mem _ hx)) e3)
end
/-- the data that == sees -/
def eqView : Xv → Sto → Option D
  | .d x, _ => some x
  | .ref i, s => match s[i]? with | some (.lst xs) => some (.lst xs) | _ => none
theorem eqView_ok {w : Wd} {s : Sto} {H : Hp} {x : Xv} {u : V} {d : D} {n : Nat} (hK : T.K = T.K) (r : RS T w s H) (e : RX T w x u) (h : eqView x s = some d) (hf : flatS n d = true) : Dp T.K H u (toP d) := by
  cases x with
  | d x =>
    cases h
    exact dp_of rfl r.g hf e
  | ref i =>
    unfold eqView at h
    dsimp only at h
    split at h
    · rename_i xs q
      cases h
      obtain ⟨a, vs, e1, e2, e3⟩ := viewL_ok (xs := xs) r e (by unfold viewL; dsimp only; rw [q])
      subst e1
      cases n with
      | zero => cases hf
      | succ n =>
        unfold toP
        exact .lst (.of e2) (dps_of rfl r.g (List.all_eq_true.mp hf) e3)
    · cases h
def eqX (neg : Bool) (x y : Xv) (s : Sto) : Res := match eqView x s, eqView y s with
  | some a, some b => if (flatS 32 a && flatS 32 b) = true then okB (if neg then !PyData.eqv (toP a) (toP b) else PyData.eqv (toP a) (toP b)) s else .stuck
  | _, _ => .stuck
theorem eq_ok {W : WX} : Op2 T W (rEqD T.K) (eqX false) := by
  intro st w x y u v s H Q hx hy r p
  unfold eqX at p
  split at p
  · rename_i a b h1 h2
    split at p
    · rename_i hf
      rw [Bool.and_eq_true] at hf
      exact ⟨_, _, eqView_ok rfl r hx h1 hf.1, eqView_ok rfl r hy h2 hf.2, flatS_shaped hf.1, flatS_shaped hf.2, okB_q p r⟩
    · exact p.elim
  · exact p.elim
theorem ne_ok {W : WX} : Op2 T W (rNeD T.K) (eqX true) := by
  intro st w x y u v s H Q hx hy r p
  unfold eqX at p
  split at p
  · rename_i a b h1 h2
    split at p
    · rename_i hf
      rw [Bool.and_eq_true] at hf
      exact ⟨_, _, eqView_ok rfl r hx h1 hf.1, eqView_ok rfl r hy h2 hf.2, flatS_shaped hf.1, flatS_shaped hf.2, okB_q p r⟩
    · exact p.elim
  · exact p.elim
theorem eqX_bl {n : Bool} : Bl2 (eqX n) := fun x y s => by
  unfold eqX
  split
  · split
    · exact .inl ⟨_, _, rfl⟩
    · exact .inr rfl
  · exact .inr rfl
/-- is None -/
def isNoneX (neg : Bool) (x y : Xv) (s : Sto) : Res := match y with
  | .d .non => match x with
    | .d .non => okB (!neg) s
    | _ => okB neg s
  | _ => .stuck
theorem isNoneX_bl {n : Bool} : Bl2 (isNoneX n) := fun x y s => by
  unfold isNoneX
  split
  · split
    · exact .inl ⟨_, _, rfl⟩
    · exact .inl ⟨_, _, rfl⟩
  · exact .inr rfl
theorem non_ref {a : Addr} (h : V.non = V.ref a) : False := nomatch h
theorem R_notnon {G : Hp} {d : D} {v : V} (h : R T G d v) (hd : d ≠ .non) : v ≠ .non := by
  intro e
  subst e
  cases d with
  | non => exact hd rfl
  | bl b => unfold R at h; exact nomatch h
  | int b => unfold R at h; exact nomatch h
  | str b => unfold R at h; exact nomatch h
  | ty b => unfold R at h; exact nomatch h
  | adr b => unfold R at h; exact nomatch h
  | cls b => unfold R at h; exact nomatch h
  | tup xs => unfold R at h; obtain ⟨_, _, h, _⟩ := h; exact non_ref h
  | lst xs => unfold R at h; obtain ⟨_, _, h, _⟩ := h; exact non_ref h
  | scr xs => unfold R at h; obtain ⟨_, h, _⟩ := h; exact non_ref h
  | obj c ns xs => unfold R at h; obtain ⟨_, _, _, h, _⟩ := h; exact non_ref h
  | exc c ns xs => unfold R at h; obtain ⟨_, _, _, h, _⟩ := h; exact non_ref h
theorem X_notnon {w : Wd} {x : Xv} {v : V} (h : RX T w x v) (hd : x ≠ .d .non) : v ≠ .non := by
  cases x with
  | d x => exact R_notnon h fun e => hd (by rw [e])
  | ref i =>
    obtain ⟨a, _, e⟩ := h
    rw [e]
    exact fun z => nomatch z
theorem isNone_ok {W : WX} : Op2 T W (fun x y H Q => y = .non ∧ Q (.bl (decide (x = .non))) H) (isNoneX false) := by
  intro st w x y u v s H Q hx hy r p
  unfold isNoneX at p
  split at p
  · cases X_non hy
    split at p
    · cases X_non hx
      exact ⟨rfl, okB_q p r⟩
    · rename_i hn
      refine ⟨rfl, ?_⟩
      rw [decide_eq_false (X_notnon hx hn)]
      exact okB_q p r
  · exact p.elim
theorem notNone_ok {W : WX} : Op2 T W (fun x y H Q => y = .non ∧ Q (.bl (!decide (x = .non))) H) (isNoneX true) := by
  intro st w x y u v s H Q hx hy r p
  unfold isNoneX at p
  split at p
  · cases X_non hy
    split at p
    · cases X_non hx
      exact ⟨rfl, okB_q p r⟩
    · rename_i hn
      refine ⟨rfl, ?_⟩
      rw [decide_eq_false (X_notnon hx hn)]
      exact okB_q p r
  · exact p.elim
/-- is of two truth values -/
def isBlX (neg : Bool) (x y : Xv) (s : Sto) : Res := match x, y with
  | .d (.bl a), .d (.bl b) => okB (if neg then !decide (a = b) else decide (a = b)) s
  | _, _ => .stuck
theorem isBlX_bl {n : Bool} : Bl2 (isBlX n) := fun x y s => by
  unfold isBlX
  split
  · exact .inl ⟨_, _, rfl⟩
  · exact .inr rfl
theorem isBl_ok {W : WX} : Op2 T W rIsB (isBlX false) := by
  intro st w x y u v s H Q hx hy r p
  unfold isBlX at p
  split at p
  · cases X_bl hx
    cases X_bl hy
    exact ⟨_, _, rfl, rfl, okB_q p r⟩
  · exact p.elim
theorem notBl_ok {W : WX} : Op2 T W rNotB (isBlX true) := by
  intro st w x y u v s H Q hx hy r p
  unfold isBlX at p
  split at p
  · cases X_bl hx
    cases X_bl hy
    exact ⟨_, _, rfl, rfl, okB_q p r⟩
  · exact p.elim
end
end FL

set_option Elab.async false
set_option linter.all false
set_option maxRecDepth 100000
set_option maxHeartbeats 4000000
namespace FL
open PySem PySem.Spec PyProof.Rows L2
section
variable {T : Tx} {X : Cx} {W : WX}
abbrev PFW (T : Tx) (X : Cx) (W : WX) (e : Expr) (f : FE) : Prop := PW X e (rdT T W f)
theorem PW.imp {X : Cx} {e : Expr} {t t' : TT} (h : PW X e t) (k : ∀ st H Q, t' st H Q → t st H Q) : PW X e t' := ⟨fun wh pins s σ H Q I q => h.run wh pins s σ H Q I (k _ _ _ q)⟩

/-! ### and, or, not, if-else -/
def andF (f g : FE) : FE := fun ρ s => (f ρ s).bind fun x s1 => match x with | .d (.bl true) => g ρ s1 | .d (.bl false) => okB false s1 | _ => .stuck
def orF (f g : FE) : FE := fun ρ s => (f ρ s).bind fun x s1 => match x with | .d (.bl true) => okB true s1 | .d (.bl false) => g ρ s1 | _ => .stuck
def notF (f : FE) : FE := fun ρ s => (f ρ s).bind fun x s1 => match x with | .d (.bl b) => okB (!b) s1 | _ => .stuck
def ifF (c f g : FE) : FE := fun ρ s => (c ρ s).bind fun x s1 => match truth x s1 with | some true => f ρ s1 | some false => g ρ s1 | none => .stuck
theorem pf_one {op} {a : Expr} {f : FE} {pos : Pos} (h : PF T X W a f) : PF T X W (.BoolOp op [a] pos) f := pe_one h
theorem pf_and {a b : Expr} {rest : List Expr} {f g : FE} {pos : Pos} (ha : PF T X W a f) (hb : PF T X W (.BoolOp .And (b :: rest) pos) g) : PF T X W (.BoolOp .And (a :: b :: rest) pos) (andF f g) :=
  PE.imp (pe_and ha hb) fun st H Q ⟨w, ρ, s, e, q, p⟩ => rdE_mono (postE_bind e q p) fun u H1 ⟨w1, x, s1, l1, e1, x1, r1, p1⟩ => by
    split at p1
    · cases X_bl x1
      exact ⟨true, rfl, by rw [if_pos rfl]; exact ⟨w1, ρ, s1, e1, r1, p1⟩⟩
    · cases X_bl x1
      exact ⟨false, rfl, by rw [if_neg Bool.false_ne_true]; exact okB_q p1 r1⟩
    · exact p1.elim
theorem pf_or {a b : Expr} {rest : List Expr} {f g : FE} {pos : Pos} (ha : PF T X W a f) (hb : PF T X W (.BoolOp .Or (b :: rest) pos) g) : PF T X W (.BoolOp .Or (a :: b :: rest) pos) (orF f g) :=
  PE.imp (pe_or ha hb) fun st H Q ⟨w, ρ, s, e, q, p⟩ => rdE_mono (postE_bind e q p) fun u H1 ⟨w1, x, s1, l1, e1, x1, r1, p1⟩ => by
    split at p1
    · cases X_bl x1
      exact ⟨true, rfl, by rw [if_pos rfl]; exact okB_q p1 r1⟩
    · cases X_bl x1
      exact ⟨false, rfl, by rw [if_neg Bool.false_ne_true]; exact ⟨w1, ρ, s1, e1, r1, p1⟩⟩
    · exact p1.elim
theorem pf_not {a : Expr} {f : FE} {pos : Pos} (ha : PF T X W a f) : PF T X W (.UnaryOp .Not a pos) (notF f) :=
  PE.imp (pe_not ha) fun st H Q ⟨w, ρ, s, e, q, p⟩ => rdE_mono (postE_bind e q p) fun u H1 ⟨w1, x, s1, l1, e1, x1, r1, p1⟩ => by
    split at p1
    · cases X_bl x1
      exact ⟨_, rfl, okB_q p1 r1⟩
    · exact p1.elim
/-- a test bound to what follows -/
theorem postT_bindT {st : L2.St} {w : Wd} {ρ : Env'} {s : Sto} {H : Hp} {f : FE} {k : Xv → Sto → Res} {Q : Bool → Hp → Prop} (e : RE T w ρ st) (r : RS T w s H) (p : PostT T W st w ((f ρ s).bind k) Q) (hk : ∀ x s1, (∃ b, truth x s1 = some b) ∨ k x s1 = .stuck) :
    rdT T W f st H fun b H1 => ∃ w1 v s1, truth v s1 = some b ∧ Le w w1 ∧ RE T w1 ρ st ∧ RS T w1 s1 H1 ∧ PostT T W st w1 (k v s1) Q := by
  refine ⟨w, ρ, s, e, r, ?_⟩
  cases h : f ρ s with
  | ok v s1 =>
    rw [h] at p
    rcases hk v s1 with ⟨b, eb⟩ | ek
    · exact ⟨b, eb, fun w1 H1 l y => ⟨w1, v, s1, eb, l, e.mono l, y, PostT.mono l p⟩⟩
    · have p' : PostT T W st w (k v s1) Q := p
      rw [ek] at p'
      exact p'.elim
  | exc x s1 =>
    rw [h] at p
    exact p
  | stuck =>
    rw [h] at p
    exact p
theorem okB_t {st : L2.St} {w : Wd} {s : Sto} {H : Hp} {Q : Bool → Hp → Prop} {b : Bool} (p : PostT T W st w (okB b s) Q) (r : RS T w s H) : Q b H := by
  obtain ⟨b', e, q⟩ := p
  cases e
  exact q w H (.refl _) r
theorem pfw_and1 {a : Expr} {f : FE} {pos : Pos} (ha : PFT T X W a f) : PFW T X W (.BoolOp .And [a] pos) f := pw_and1 ha
theorem pfw_or1 {a : Expr} {f : FE} {pos : Pos} (ha : PFT T X W a f) : PFW T X W (.BoolOp .Or [a] pos) f := pw_or1 ha
theorem pfw_and {a b : Expr} {rest : List Expr} {f g : FE} {pos : Pos} (ha : PFT T X W a f) (hb : PFW T X W (.BoolOp .And (b :: rest) pos) g) : PFW T X W (.BoolOp .And (a :: b :: rest) pos) (andF f g) :=
  PW.imp (pw_and ha hb) fun st H Q ⟨w, ρ, s, e, q, p⟩ => rdT_mono (postT_bindT e q p (fun x s1 => by
      split
      · exact .inl ⟨true, rfl⟩
      · exact .inl ⟨false, rfl⟩
      · exact .inr rfl)) fun b H1 ⟨w1, x, s1, eb, l1, e1, r1, p1⟩ => by
    split at p1
    · cases eb
      rw [if_pos rfl]
      exact ⟨w1, ρ, s1, e1, r1, p1⟩
    · cases eb
      rw [if_neg Bool.false_ne_true]
      exact okB_t p1 r1
    · exact p1.elim
theorem pfw_or {a b : Expr} {rest : List Expr} {f g : FE} {pos : Pos} (ha : PFT T X W a f) (hb : PFW T X W (.BoolOp .Or (b :: rest) pos) g) : PFW T X W (.BoolOp .Or (a :: b :: rest) pos) (orF f g) :=
  PW.imp (pw_or ha hb) fun st H Q ⟨w, ρ, s, e, q, p⟩ => rdT_mono (postT_bindT e q p (fun x s1 => by
      split
      · exact .inl ⟨true, rfl⟩
      · exact .inl ⟨false, rfl⟩
      · exact .inr rfl)) fun b H1 ⟨w1, x, s1, eb, l1, e1, r1, p1⟩ => by
    split at p1
    · cases eb
      rw [if_pos rfl]
      exact okB_t p1 r1
    · cases eb
      rw [if_neg Bool.false_ne_true]
      exact ⟨w1, ρ, s1, e1, r1, p1⟩
    · exact p1.elim
theorem pft_w {e : Expr} {f : FE} (h : PFW T X W e f) : PFT T X W e f := PW.pt h
theorem pft_not {a : Expr} {f : FE} {pos : Pos} (ha : PFT T X W a f) : PFT T X W (.UnaryOp .Not a pos) (notF f) :=
  PT.imp (pt_not ha) fun st H Q ⟨w, ρ, s, e, q, p⟩ => rdT_mono (postT_bindT e q p (fun x s1 => by
      split
      · exact .inl ⟨_, rfl⟩
      · exact .inr rfl)) fun b H1 ⟨w1, x, s1, eb, l1, e1, r1, p1⟩ => by
    split at p1
    · cases eb
      exact okB_t p1 r1
    · exact p1.elim
/-- not of anything, by its truth -/
def notTF (f : FE) : FE := fun ρ s => (f ρ s).bind fun x s1 => match truth x s1 with | some b => okB (!b) s1 | none => .stuck
theorem pft_notT {a : Expr} {f : FE} {pos : Pos} (ha : PFT T X W a f) : PFT T X W (.UnaryOp .Not a pos) (notTF f) :=
  PT.imp (pt_not ha) fun st H Q ⟨w, ρ, s, e, q, p⟩ => rdT_mono (postT_bindT e q p (fun x s1 => by
      cases h : truth x s1 with
      | some b => exact .inl ⟨_, rfl⟩
      | none => exact .inr rfl)) fun b H1 ⟨w1, x, s1, eb, l1, e1, r1, p1⟩ => by
    rw [eb] at p1
    exact okB_t p1 r1
theorem postE_bindT {st : L2.St} {w : Wd} {ρ : Env'} {s : Sto} {H : Hp} {f : FE} {k : Xv → Sto → Res} {Q : VK} (e : RE T w ρ st) (r : RS T w s H) (p : PostE T W st w ((f ρ s).bind k) Q) (hk : ∀ x s1, (∃ b, truth x s1 = some b) ∨ k x s1 = .stuck) :
    rdT T W f st H fun b H1 => ∃ w1 v s1, truth v s1 = some b ∧ Le w w1 ∧ RE T w1 ρ st ∧ RS T w1 s1 H1 ∧ PostE T W st w1 (k v s1) Q := by
  refine ⟨w, ρ, s, e, r, ?_⟩
  cases h : f ρ s with
  | ok v s1 =>
    rw [h] at p
    rcases hk v s1 with ⟨b, eb⟩ | ek
    · exact ⟨b, eb, fun w1 H1 l y => ⟨w1, v, s1, eb, l, e.mono l, y, PostE.mono l p⟩⟩
    · have p' : PostE T W st w (k v s1) Q := p
      rw [ek] at p'
      exact p'.elim
  | exc x s1 =>
    rw [h] at p
    exact p
  | stuck =>
    rw [h] at p
    exact p
theorem pf_if {c a b : Expr} {h f g : FE} {pos : Pos} (hc : PFT T X W c h) (ha : PF T X W a f) (hb : PF T X W b g) : PF T X W (.IfExp c a b pos) (ifF h f g) :=
  PE.imp (pe_ifExp hc ha hb) fun st H Q ⟨w, ρ, s, e, q, p⟩ => rdT_mono (postE_bindT e q p (fun x s1 => by
      cases h : truth x s1 with
      | some b => exact .inl ⟨_, rfl⟩
      | none => exact .inr rfl)) fun b H1 ⟨w1, x, s1, eb, l1, e1, r1, p1⟩ => by
    rw [eb] at p1
    cases b with
    | true =>
      rw [if_pos rfl]
      exact ⟨w1, ρ, s1, e1, r1, p1⟩
    | false =>
      rw [if_neg Bool.false_ne_true]
      exact ⟨w1, ρ, s1, e1, r1, p1⟩
/-- a < b < c -/
def chainK (o' : Xv → Xv → Sto → Res) (h : FE) (ρ : Env') (y : Xv) (z : Xv) (s3 : Sto) : Res := match z with
  | .d (.bl true) => (h ρ s3).bind fun v s4 => o' y v s4
  | .d (.bl false) => okB false s3
  | _ => .stuck
def chainF (o o' : Xv → Xv → Sto → Res) (f g h : FE) : FE := fun ρ s => (f ρ s).bind fun x s1 => (g ρ s1).bind fun y s2 => (o x y s2).bind (chainK o' h ρ y)
theorem rd_chain {r r' : R2} {o o' : Xv → Xv → Sto → Res} {f g h : FE} (h1 : Op2 T W r o) (h2 : Op2 T W r' o') {st : L2.St} {H : Hp} {Q : VK} (k : rdE T W (chainF o o' f g h) st H Q) : tChain r r' (rdE T W f) (rdE T W g) (rdE T W h) st H Q := by
  obtain ⟨w, ρ, s, e, q, p⟩ := k
  refine rdE_mono (postE_bind e q p) fun u H1 ⟨w1, x, s1, l1, e1, x1, r1, p1⟩ => rdE_mono (postE_bind e1 r1 p1) fun v H2 ⟨w2, y, s2, l2, e2, x2, r2, p2⟩ => ?_
  refine h1 st w2 x y u v s2 H2 _ (x1.mono l2) x2 r2 ?_
  revert p2
  show PostE T W st w2 ((o x y s2).bind _) Q → _
  cases o x y s2 with
  | exc a b => exact fun p => p
  | stuck => exact fun p => p
  | ok z s3 =>
    intro p2 w3 u3 H3 l3 x3 r3
    have p3 := PostE.mono l3 (show PostE T W st w2 (chainK o' h ρ y z s3) Q from p2)
    unfold chainK at p3
    split at p3
    · cases X_bl x3
      refine ⟨true, rfl, ?_⟩
      rw [if_pos rfl]
      exact rdE_mono (postE_bind (e2.mono l3) r3 p3) fun v4 H4 ⟨w4, z4, s4, l4, e4, x4, r4, p4⟩ => h2 st w4 y z4 v v4 s4 H4 Q ((x2.mono l3).mono l4) x4 r4 p4
    · cases X_bl x3
      refine ⟨false, rfl, ?_⟩
      rw [if_neg Bool.false_ne_true]
      exact okB_q p3 r3
    · exact p3.elim
theorem pf_chain {op op' : CmpOp} {r r' : R2} {o o' : Xv → Xv → Sto → Res} {a b c : Expr} {f g h : FE} {pos : Pos} (ho : OpR X (compareOp op) r) (ho' : OpR X (compareOp op') r') (h1 : Op2 T W r o) (h2 : Op2 T W r' o') (ha : PF T X W a f) (hb : PF T X W b g) (hc : PF T X W c h)
    (hm : lastMarks [op, op'] [b, c] = false := by with_unfolding_all rfl) : PF T X W (.Compare a [op, op'] [b, c] pos) (chainF o o' f g h) := PE.imp (pe_chain ho ho' ha hb hc hm) fun _ _ _ => rd_chain h1 h2
/-- what gives truth values alone -/
def BlF (f : FE) : Prop := ∀ ρ s, match f ρ s with | .ok v _ => ∃ b, v = .d (.bl b) | _ => True
theorem rdT_bl {f : FE} (hf : BlF f) {st : L2.St} {H : Hp} {Q : Bool → Hp → Prop} (k : rdT T W f st H Q) : rdE T W f st H fun u H1 => ∃ k, u = .bl k ∧ Q k H1 := by
  obtain ⟨w, ρ, s, e, q, p⟩ := k
  refine ⟨w, ρ, s, e, q, ?_⟩
  have hb := hf ρ s
  revert p hb
  cases f ρ s with
  | exc a b => exact fun p _ => p
  | stuck => exact fun p _ => p
  | ok x s1 =>
    rintro ⟨b, eb, p⟩ ⟨b', ex⟩ w1 u H1 l x1 y1
    subst ex
    cases eb
    exact ⟨b, X_bl x1, p w1 H1 l y1⟩
theorem chainF_bl {o o' : Xv → Xv → Sto → Res} {f g h : FE} (h2 : Bl2 o') : BlF (chainF o o' f g h) := fun ρ s => by
  unfold chainF
  cases f ρ s with
  | exc a b => exact True.intro
  | stuck => exact True.intro
  | ok x s1 =>
    show match (g ρ s1).bind _ with | .ok v _ => ∃ b, v = .d (.bl b) | _ => True
    cases g ρ s1 with
    | exc a b => exact True.intro
    | stuck => exact True.intro
    | ok y s2 =>
      show match (o x y s2).bind _ with | .ok v _ => ∃ b, v = .d (.bl b) | _ => True
      cases o x y s2 with
      | exc a b => exact True.intro
      | stuck => exact True.intro
      | ok z s3 =>
        show match chainK o' h ρ y z s3 with | .ok v _ => ∃ b, v = .d (.bl b) | _ => True
        unfold chainK
        split
        · rename_i v1 s5 e5
          split at e5
          · revert e5
            cases h ρ s3 with
            | exc a b => exact fun e => nomatch e
            | stuck => exact fun e => nomatch e
            | ok v s4 =>
              intro e5
              have e5' : o' y v s4 = .ok v1 s5 := e5
              rcases h2 y v s4 with ⟨b, s', e⟩ | e
              · rw [e] at e5'
                cases e5'
                exact ⟨b, rfl⟩
              · rw [e] at e5'
                cases e5'
          · cases e5
            exact ⟨_, rfl⟩
          · cases e5
        · exact True.intro
end
end FL

set_option Elab.async false
set_option linter.all false
set_option maxRecDepth 100000
set_option maxHeartbeats 4000000
namespace FL
open PySem PySem.Spec PyProof.Rows L2
section
variable {T : Tx} {X : Cx} {W : WX}
/-! ### argument lists, displays -/
def nilA : FA := fun _ s => .ok [] s
def consA (f : FE) (g : FA) : FA := fun ρ s => (f ρ s).bindA fun x s1 => (g ρ s1).bindA fun xs s2 => .ok (x :: xs) s2
theorem pfa_nil : PFA T X W [] nilA := PA.imp pa_nil fun st H Q ⟨w, ρ, s, e, q, p⟩ => p w [] H (.refl _) rfl q
theorem pfa_cons {e : Expr} {es : List Expr} {f : FE} {g : FA} (ha : PF T X W e f) (hr : PFA T X W es g) (hs : starEach (e :: es) X.env = (false, eval e X.env) :: starEach es X.env := by rfl) : PFA T X W (e :: es) (consA f g) :=
  PA.imp (pa_cons ha hr hs) fun st H Q ⟨w, ρ, s, e, q, p⟩ => rdE_mono (postA_bind e q p) fun u H1 ⟨w1, x, s1, l1, e1, x1, r1, p1⟩ => rdA_mono (postA_bindL e1 r1 p1) fun us H2 ⟨w2, xs, s2, l2, e2, x2, r2, p2⟩ =>
    p2 w2 (u :: us) H2 (.refl _) (.cons (x1.mono l2) x2) r2
/-- all are plain data -/
def pureAll : List Xv → Option (List D)
  | [] => some []
  | .d x :: xs => match pureAll xs with | some r => some (x :: r) | none => none
  | .ref _ :: _ => none
theorem pureAll_ok {w : Wd} : ∀ {xs : List Xv} {ds : List D} {vs : List V}, pureAll xs = some ds → RXs T w xs vs → Rs T w.G ds vs
  | [], ds, vs, h, e => by
    cases h
    have e' : vs = [] := e
    subst e'
    unfold Rs
    rfl
  | .d x :: xs, ds, vs, h, ⟨v, r, e1, e2, e3⟩ => by
    unfold pureAll at h
    split at h
    · rename_i r' q
      cases h
      subst e1
      exact .cons e2 (pureAll_ok q e3)
    · cases h
  | .ref _ :: _, _, _, h, _ => by cases h
def tupF (g : FA) : FE := fun ρ s => (g ρ s).bind fun xs s1 => match pureAll xs with
  | some ds => if ds.length ≤ 1000000 then .ok (.d (.tup ds)) s1 else .stuck
  | none => .stuck
def lstF (m : Bool) (g : FA) : FE := fun ρ s => (g ρ s).bind fun xs s1 => match pureAll xs with
  | some ds => if ds.length ≤ 1000000 then mkL m ds s1 else .stuck
  | none => .stuck
theorem le_line {n : Nat} (h : n ≤ 1000000) : n ≤ sizeLine := by rw [sizeLine_eq]; omega
theorem pf_tup {es : List Expr} {g : FA} {x1} {pos : Pos} (h : PFA T X W es g) : PF T X W (.Tuple es x1 pos) (tupF g) :=
  PE.imp (pe_tup h) fun st H Q ⟨w, ρ, s, e, q, p⟩ => rdA_mono (postE_bindL e q p) fun us H1 ⟨w1, xs, s1, l1, e1, x1, r1, p1⟩ => by
    split at p1
    · rename_i ds hd
      split at p1
      · rename_i hl
        have k := pureAll_ok hd x1
        exact ⟨by rw [← k.length]; exact le_line hl, fun a ha => mkT_ok p1 r1 k a ha⟩
      · exact p1.elim
    · exact p1.elim
theorem pf_lst {es : List Expr} {g : FA} {pos : Pos} (m : Bool) (h : PFA T X W es g) : PF T X W (.List es pos) (lstF m g) :=
  PE.imp (pe_lst h) fun st H Q ⟨w, ρ, s, e, q, p⟩ => rdA_mono (postE_bindL e q p) fun us H1 ⟨w1, xs, s1, l1, e1, x1, r1, p1⟩ => by
    split at p1
    · rename_i ds hd
      split at p1
      · rename_i hl
        have k := pureAll_ok hd x1
        exact ⟨by rw [← k.length]; exact le_line hl, fun a ha => mkL_ok p1 r1 k a ha⟩
      · exact p1.elim
    · exact p1.elim

/-! ### a[i] -/
theorem Rs.atI {G : Hp} {xs : List D} {vs : List V} {i : Int} {x : D} (h : Rs T G xs vs) (e : atI xs i = some x) : ∃ v, L2.atI vs i = some v ∧ R T G x v := by
  unfold L2.atI at e ⊢
  rw [← h.length]
  cases k : ixN xs.length i with
  | none => rw [k] at e; cases e
  | some j =>
    rw [k] at e
    exact h.get e
def ixX (x y : Xv) (s : Sto) : Res := match y with
  | .d (.int i) => match x with
    | .d (.tup xs) => match atI xs i with | some v => .ok (.d v) s | none => .stuck
    | .d (.str z) => if z.length ≤ sizeLine then match atI z.cps.toList i with | some c => .ok (.d (.str ⟨#[c]⟩)) s | none => .stuck else .stuck
    | .d (.scr ns) => match atI ns i with | some v => okI v s | none => .stuck
    | x => match viewL x s with
      | some xs => match atI xs i with | some v => .ok (.d v) s | none => .stuck
      | none => .stuck
  | _ => .stuck
theorem atI_map {α β : Type} (f : α → β) {xs : List α} {i : Int} {x : α} (h : atI xs i = some x) : atI (xs.map f) i = some (f x) := by
  unfold atI at h ⊢
  rw [List.length_map]
  cases k : ixN xs.length i with
  | none => rw [k] at h; cases h
  | some j =>
    rw [k] at h
    have h' : xs[j]? = some x := h
    show (xs.map f)[j]? = some (f x)
    rw [List.getElem?_map, h']
    rfl
theorem ix_ok : Op2 T W (rIx T.K) ixX := by
  intro st w x y u v s H Q hx hy r p
  unfold ixX at p
  split at p
  · rename_i i
    cases X_int hy
    split at p
    · rename_i xs
      split at p
      · rename_i d hd
        obtain ⟨a, vs, e1, e2, e3⟩ := viewT_ok (xs := xs) r hx rfl
        obtain ⟨z, hz, rz⟩ := e3.atI hd
        exact .inr (.inl ⟨a, vs, i, z, e1, rfl, e2, hz, postE_ok p rz r⟩)
      · exact p.elim
    · rename_i z
      cases X_str hx
      split at p
      · rename_i hl
        split at p
        · rename_i c hc
          exact .inr (.inr ⟨z, i, c, rfl, rfl, hl, hc, postE_ok p rX_str r⟩)
        · exact p.elim
      · exact p.elim
    · rename_i ns
      split at p
      · rename_i n hn
        have hx' : R T w.G (.scr ns) u := hx
        unfold R at hx'
        obtain ⟨a, e1, e2⟩ := hx'
        exact .inl ⟨a, _, i, _, e1, rfl, r.g.seq e2, atI_map V.int hn, okI_q p r⟩
      · exact p.elim
    · split at p
      · rename_i xs hv
        split at p
        · rename_i d hd
          obtain ⟨a, vs, e1, e2, e3⟩ := viewL_ok r hx hv
          obtain ⟨z, hz, rz⟩ := e3.atI hd
          exact .inl ⟨a, vs, i, z, e1, rfl, .of e2, hz, postE_ok p rz r⟩
        · exact p.elim
      · exact p.elim
  · exact p.elim
theorem pf_ix {a b : Expr} {f g : FE} {pos : Pos} (hK : X.K = T.K) (ha : PF T X W a f) (hb : PF T X W b g) (hs : PlainIx b := by exact fun _ _ => rfl) : PF T X W (.Subscript a b pos) (op2F ixX f g) :=
  PE.imp (pe_ix ix_seq ha hb hs) fun _ _ _ k => by rw [hK]; exact rd_op2 ix_ok k

/-! ### a[lo:hi] -/
def cutD {α : Type} (xs : List α) (lo hi : Option Int) : List α := (xs.drop (HT.sIx xs.length 0 lo)).take (HT.sIx xs.length xs.length hi - HT.sIx xs.length 0 lo)
def prt : Xv → Option (Option Int)
  | .d .non => some none
  | .d (.int i) => some (some i)
  | _ => none
def slX (m : Bool) (x l h : Xv) (s : Sto) : Res := match prt l, prt h with
  | some lo, some hi => match x with
    | .d (.tup xs) => .ok (.d (.tup (cutD xs lo hi))) s
    | .d (.str z) => if z.length ≤ sizeLine then .ok (.d (.str (cutS z lo hi))) s else .stuck
    | .d (.scr ns) => mkL m ((cutD ns lo hi).map .int) s
    | x => match viewL x s with | some xs => mkL m (cutD xs lo hi) s | none => .stuck
  | _, _ => .stuck
def slF (m : Bool) (f l h : FE) : FE := fun ρ s => (f ρ s).bind fun x s1 => (l ρ s1).bind fun a s2 => if (prt a).isSome = true then (h ρ s2).bind fun b s3 => slX m x a b s3 else .stuck
/-- a slice's part -/
abbrev PFO (T : Tx) (X : Cx) (W : WX) (e : Option Expr) (f : FE) : Prop := PO X e fun st H Q => rdE T W f st H fun u H1 => (u = .non ∧ Q none H1) ∨ ∃ i, u = .int i ∧ Q (some i) H1
theorem PO.imp {e : Option Expr} {t t' : TO} (h : PO X e t) (k : ∀ st H Q, t' st H Q → t st H Q) : PO X e t' := ⟨fun pins s σ H Q I q => h.run pins s σ H Q I (k _ _ _ q)⟩
theorem pfo_none : PFO T X W none (litF .non) := PO.imp po_none fun st H Q ⟨w, ρ, s, e, q, p⟩ => by
  rcases postE_ok p rX_non q with ⟨_, h⟩ | ⟨i, h, _⟩
  · exact h
  · cases h
/-- what gives an int -/
def intF (f : FE) : FE := fun ρ s => (f ρ s).bind fun x s1 => match x with | .d (.int i) => okI i s1 | _ => .stuck
theorem pfo_some {e : Expr} {f : FE} (h : PF T X W e f) : PFO T X W (some e) (intF f) := PO.imp (po_some h) fun st H Q ⟨w, ρ, s, e, q, p⟩ => rdE_mono (postE_bind e q p) fun u H1 ⟨w1, x, s1, l1, e1, x1, r1, p1⟩ => by
  split at p1
  · cases X_int x1
    rcases okI_q p1 r1 with ⟨h, _⟩ | ⟨i, h, k⟩
    · cases h
    · cases h
      exact ⟨_, rfl, k⟩
  · exact p1.elim
theorem Rs.cut {G : Hp} {xs : List D} {vs : List V} (h : Rs T G xs vs) (lo hi : Option Int) : Rs T G (cutD xs lo hi) (cutV vs lo hi) := by
  unfold cutD cutV
  rw [← h.length]
  exact (h.drop _).take _
theorem cut_whole {xs : List D} {lo hi : Option Int} (h : HT.sIx xs.length 0 lo = 0 ∧ HT.sIx xs.length xs.length hi = xs.length) : cutD xs lo hi = xs := by
  unfold cutD
  rw [h.1, h.2]
  simp
theorem cut_ints (ns : List Int) (lo hi : Option Int) : cutV (ns.map V.int) lo hi = (cutD ns lo hi).map V.int := by
  unfold cutD cutV
  rw [List.length_map, List.map_take, List.map_drop]
theorem rs_ints {G : Hp} : ∀ ns : List Int, Rs T G (ns.map D.int) (ns.map V.int)
  | [] => by unfold Rs; rfl
  | n :: ns => .cons (by unfold R; rfl) (rs_ints ns)
theorem prt_ok {w : Wd} {x : Xv} {u : V} {o : Option Int} {Q : Option Int → Hp → Prop} {H : Hp} (e : RX T w x u) (h : prt x = some o) (q : Q o H) : (u = .non ∧ Q none H) ∨ ∃ i, u = .int i ∧ Q (some i) H := by
  unfold prt at h
  split at h
  · cases h
    exact .inl ⟨X_non e, q⟩
  · cases h
    exact .inr ⟨_, X_int e, q⟩
  · cases h
def rSlAll (K : PySem.W.Frag) : V → Option Int → Option Int → Hp → VK → Prop := fun x lo hi H Q => rSlA K x lo hi H Q ∨ rSlL K x lo hi H Q ∨ rSlS x lo hi H Q
theorem sl_ok {st : L2.St} {w : Wd} {m : Bool} {x l h : Xv} {u vl vh : V} {s : Sto} {H : Hp} {Q : VK} (hx : RX T w x u) (hl : RX T w l vl) (hh : RX T w h vh) (r : RS T w s H) (p : PostE T W st w (slX m x l h s) Q) : ∃ lo hi, prt l = some lo ∧ prt h = some hi ∧ rSlAll T.K u lo hi H Q := by
  unfold slX at p
  split at p
  · rename_i lo hi e1 e2
    refine ⟨lo, hi, e1, e2, ?_⟩
    split at p
    · rename_i xs
      obtain ⟨a, vs, f1, f2, f3⟩ := viewT_ok (xs := xs) r hx rfl
      subst f1
      refine .inl ⟨a, vs, rfl, f2, fun z => ?_, fun z q hq => mkT_ok p r (f3.cut lo hi) q hq⟩
      rw [← f3.length] at z
      rw [cut_whole z] at p
      exact postE_ok p hx r
    · rename_i z
      cases X_str hx
      split at p
      · rename_i hz
        exact .inr (.inr ⟨z, rfl, hz, postE_ok p rX_str r⟩)
      · exact p.elim
    · rename_i ns
      have hx' : R T w.G (.scr ns) u := hx
      unfold R at hx'
      obtain ⟨a, e3, e4⟩ := hx'
      subst e3
      refine .inr (.inl ⟨a, _, rfl, r.g.seq e4, fun q hq => ?_⟩)
      rw [cut_ints]
      exact mkL_ok p r (rs_ints _) q hq
    · split at p
      · rename_i xs hv
        obtain ⟨a, vs, f1, f2, f3⟩ := viewL_ok r hx hv
        subst f1
        exact .inr (.inl ⟨a, vs, rfl, .of f2, fun q hq => mkL_ok p r (f3.cut lo hi) q hq⟩)
      · exact p.elim
  · exact p.elim
theorem pf_slice {e : Expr} {lo hi : Option Expr} {f l h : FE} {pos p2 : Pos} (m : Bool) (hK : X.K = T.K) (he : PF T X W e f) (hl : PFO T X W lo l) (hh : PFO T X W hi h) : PF T X W (.Subscript e (.Slice lo hi none p2) pos) (slF m f l h) :=
  PE.imp (pe_slice (r := rSlAll X.K) (sl_tupA.or (sl_list.or sl_str)) he hl hh) fun st H Q ⟨w, ρ, s, e, q, p⟩ => rdE_mono (postE_bind e q p) fun u H1 ⟨w1, x, s1, l1, e1, x1, r1, p1⟩ => by
    refine rdE_mono (postE_bind e1 r1 p1) fun v2 H2 ⟨w2, y, s2, l2, e2, x2, r2, p2⟩ => ?_
    split at p2
    · rename_i hy
      obtain ⟨lo, hlo⟩ := Option.isSome_iff_exists.mp hy
      have fin : rdE T W h st H2 fun u1 H3 => (u1 = V.non ∧ rSlAll X.K u lo none H3 Q) ∨ ∃ i, u1 = V.int i ∧ rSlAll X.K u lo (some i) H3 Q := rdE_mono (postE_bind e2 r2 p2) fun v3 H3 ⟨w3, z, s3, l3, e3, x3, r3, p3⟩ => by
        obtain ⟨lo', hi, q1, q2, q3⟩ := sl_ok ((x1.mono l2).mono l3) (x2.mono l3) x3 r3 p3
        rw [hlo] at q1
        cases q1
        exact prt_ok (Q := fun o H3 => rSlAll X.K u lo o H3 Q) x3 q2 (by rw [hK]; exact q3)
      exact prt_ok (Q := fun o H3 => rdE T W h st H3 fun u1 H4 => (u1 = V.non ∧ rSlAll X.K u o none H4 Q) ∨ ∃ i, u1 = V.int i ∧ rSlAll X.K u o (some i) H4 Q) x2 hlo fin
    · exact p2.elim
end
end FL

set_option Elab.async false
set_option linter.all false
set_option maxRecDepth 100000
set_option maxHeartbeats 4000000
namespace FL
open PySem PySem.Spec PyProof.Rows L2
section
variable {T : Tx} {X : Cx} {W : WX}
/-! ### built-in functions -/
abbrev RN := List V → Hp → VK → Prop
def OpN (T : Tx) (W : WX) (r : RN) (o : List Xv → Sto → Res) : Prop := ∀ (st : L2.St) (w : Wd) (xs : List Xv) (vs : List V) (s : Sto) (H : Hp) (Q : VK), RXs T w xs vs → RS T w s H → PostE T W st w (o xs s) Q → r vs H Q
def callBF (o : List Xv → Sto → Res) (g : FA) : FE := fun ρ s => (g ρ s).bind o
theorem rd_callB {r : RN} {o : List Xv → Sto → Res} {g : FA} (h : OpN T W r o) {st : L2.St} {H : Hp} {Q : VK} (k : rdE T W (callBF o g) st H Q) : tCB r (rdA T W g) st H Q := by
  obtain ⟨w, ρ, s, e, q, p⟩ := k
  exact rdA_mono (postE_bindL e q p) fun us H1 ⟨w1, xs, s1, l1, e1, x1, r1, p1⟩ => h st w1 xs us s1 H1 Q x1 r1 p1
theorem pf_callB {x : Str} {p pos : Pos} {e : Expr} {es : List Expr} {id : String} {r : RN} {o : List Xv → Sto → Res} {g : FA} (hc : CallR X (.builtin id) r) (h : OpN T W r o) (hm : X.mg x = none) (hv : bootBuiltins x = some (.builtin id)) (ha : PFA T X W (e :: es) g) (hg : Gl X x := by rfl)
    (hn : x ≠ "__name__" := by decide) (hdb : (x == ("__debug__" : Str)) = false := by decide) (he : starEach (e :: es) X.env = (false, eval e X.env) :: starEach es X.env := by rfl) (hpl : (backTo pos (starEach es X.env)).any (·.1) = false := by rfl) :
    PF T X W (.Call (.Name x p) (e :: es) [] pos) (callBF o g) := PE.imp (pe_callB hc hg hm hv ha hn hdb he hpl) fun _ _ _ => rd_callB h
theorem pf_callTy {x : Str} {p pos : Pos} {e : Expr} {es : List Expr} {id : String} {r : RN} {o : List Xv → Sto → Res} {g : FA} (hc : CallR X (.type id) r) (h : OpN T W r o) (hm : X.mg x = none) (hv : bootBuiltins x = some (.type id)) (ha : PFA T X W (e :: es) g) (hg : Gl X x := by rfl)
    (hn : x ≠ "__name__" := by decide) (hdb : (x == ("__debug__" : Str)) = false := by decide) (he : starEach (e :: es) X.env = (false, eval e X.env) :: starEach es X.env := by rfl) (hpl : (backTo pos (starEach es X.env)).any (·.1) = false := by rfl) :
    PF T X W (.Call (.Name x p) (e :: es) [] pos) (callBF o g) := PE.imp (pe_callTy hc hg hm hv ha hn hdb he hpl) fun _ _ _ => rd_callB h
theorem rxs1 {w : Wd} {x : Xv} {vs : List V} (h : RXs T w [x] vs) : ∃ v, vs = [v] ∧ RX T w x v := by
  obtain ⟨v, r, e1, e2, e3⟩ := h
  have e3' : r = [] := e3
  subst e3'
  exact ⟨v, e1, e2⟩
theorem rxs2 {w : Wd} {x y : Xv} {vs : List V} (h : RXs T w [x, y] vs) : ∃ v u, vs = [v, u] ∧ RX T w x v ∧ RX T w y u := by
  obtain ⟨v, r, e1, e2, e3⟩ := h
  obtain ⟨u, e4, e5⟩ := rxs1 e3
  subst e4
  exact ⟨v, u, e1, e2, e5⟩
def lenX (xs : List Xv) (s : Sto) : Res := match xs with
  | [.d (.tup a)] => okI a.length s
  | [.d (.str z)] => if z.length ≤ sizeLine then okI z.length s else .stuck
  | [.d (.scr a)] => okI a.length s
  | [x] => match viewL x s with | some a => okI a.length s | none => .stuck
  | _ => .stuck
theorem len_ok : OpN T W (fun xs H Q => ∃ x n, xs = [x] ∧ LenV T.K x H n ∧ Q (.int n) H) lenX := by
  intro st w xs vs s H Q hx r p
  unfold lenX at p
  split at p
  · rename_i a
    obtain ⟨v, rfl, e⟩ := rxs1 hx
    obtain ⟨ad, us, e1, e2, e3⟩ := viewT_ok (xs := a) r e rfl
    subst e1
    exact ⟨_, _, rfl, .inr ⟨us, e2, e3.length⟩, okI_q p r⟩
  · obtain ⟨v, rfl, e⟩ := rxs1 hx
    cases X_str e
    split at p
    · exact ⟨_, _, rfl, ⟨by assumption, rfl⟩, okI_q p r⟩
    · exact p.elim
  · rename_i a
    obtain ⟨v, rfl, e⟩ := rxs1 hx
    have e' : R T w.G (.scr a) v := e
    unfold R at e'
    obtain ⟨ad, e1, e2⟩ := e'
    subst e1
    exact ⟨_, _, rfl, .inl ⟨_, r.g.seq e2, by rw [List.length_map]⟩, okI_q p r⟩
  · split at p
    · rename_i a hv
      obtain ⟨v, rfl, e⟩ := rxs1 hx
      obtain ⟨ad, us, e1, e2, e3⟩ := viewL_ok r e hv
      subst e1
      exact ⟨_, _, rfl, .inl ⟨us, .of e2, e3.length⟩, okI_q p r⟩
    · exact p.elim
  · exact p.elim
/-- int(n), int(b) -/
def intX (xs : List Xv) (s : Sto) : Res := match xs with
  | [.d (.int i)] => okI i s
  | [.d (.bl b)] => okI (if b then 1 else 0) s
  | _ => .stuck
theorem int_ok : OpN T W (fun xs H Q => (∃ i, xs = [.int i] ∧ Q (.int i) H) ∨ ∃ k, xs = [.bl k] ∧ Q (.int (if k then 1 else 0)) H) intX := by
  intro st w xs vs s H Q hx r p
  unfold intX at p
  split at p
  · obtain ⟨v, rfl, e⟩ := rxs1 hx
    cases X_int e
    exact .inl ⟨_, rfl, okI_q p r⟩
  · obtain ⟨v, rfl, e⟩ := rxs1 hx
    cases X_bl e
    exact .inr ⟨_, rfl, okI_q p r⟩
  · exact p.elim
def tupleX (xs : List Xv) (s : Sto) : Res := match xs with
  | [.d (.tup a)] => .ok (.d (.tup a)) s
  | [x] => match viewL x s with | some a => .ok (.d (.tup a)) s | none => .stuck
  | _ => .stuck
theorem tuple_ok : OpN T W (fun xs H Q => ∃ p ys, xs = [.ref p] ∧ ((SqL T.K H p ys ∧ ∀ l, H l = none → Q (.ref l) (upd H l (.tup ys))) ∨ (SqT T.K H p ys ∧ Q (.ref p) H))) tupleX := by
  intro st w xs vs s H Q hx r p
  unfold tupleX at p
  split at p
  · rename_i a
    obtain ⟨v, rfl, e⟩ := rxs1 hx
    obtain ⟨ad, us, e1, e2, e3⟩ := viewT_ok (xs := a) r e rfl
    subst e1
    exact ⟨_, _, rfl, .inr ⟨e2, postE_ok p e r⟩⟩
  · split at p
    · rename_i a hv
      obtain ⟨v, rfl, e⟩ := rxs1 hx
      obtain ⟨ad, us, e1, e2, e3⟩ := viewL_ok r e hv
      subst e1
      exact ⟨_, _, rfl, .inl ⟨.of e2, fun q hq => mkT_ok p r e3 q hq⟩⟩
    · exact p.elim
  · exact p.elim
def listX (m : Bool) (xs : List Xv) (s : Sto) : Res := match xs with
  | [.d (.tup a)] => mkL m a s
  | [.d (.scr a)] => mkL m (a.map .int) s
  | [x] => match viewL x s with | some a => mkL m a s | none => .stuck
  | _ => .stuck
theorem list_ok {m : Bool} : OpN T W (fun xs H Q => ∃ p ys, xs = [.ref p] ∧ (SqL T.K H p ys ∨ SqT T.K H p ys) ∧ ∀ l, H l = none → Q (.ref l) (upd H l (.lst ys))) (listX m) := by
  intro st w xs vs s H Q hx r p
  unfold listX at p
  split at p
  · rename_i a
    obtain ⟨v, rfl, e⟩ := rxs1 hx
    obtain ⟨ad, us, e1, e2, e3⟩ := viewT_ok (xs := a) r e rfl
    subst e1
    exact ⟨_, _, rfl, .inr e2, fun q hq => mkL_ok p r e3 q hq⟩
  · rename_i a
    obtain ⟨v, rfl, e⟩ := rxs1 hx
    have e' : R T w.G (.scr a) v := e
    unfold R at e'
    obtain ⟨ad, e1, e2⟩ := e'
    subst e1
    exact ⟨_, _, rfl, .inl (r.g.seq e2), fun q hq => mkL_ok p r (rs_ints a) q hq⟩
  · split at p
    · rename_i a hv
      obtain ⟨v, rfl, e⟩ := rxs1 hx
      obtain ⟨ad, us, e1, e2, e3⟩ := viewL_ok r e hv
      subst e1
      exact ⟨_, _, rfl, .inl (.of e2), fun q hq => mkL_ok p r e3 q hq⟩
    · exact p.elim
  · exact p.elim
/-- all are numbers -/
def allInts : List D → Option (List Int)
  | [] => some []
  | .int i :: xs => match allInts xs with | some r => some (i :: r) | none => none
  | _ => none
theorem allInts_ok {G : Hp} : ∀ {xs : List D} {ns : List Int} {vs : List V}, allInts xs = some ns → Rs T G xs vs → vs = ns.map V.int
  | [], ns, vs, h, e => by
    cases h
    unfold Rs at e
    exact e
  | .int i :: xs, ns, vs, h, e => by
    unfold Rs at e
    obtain ⟨v, r, e1, e2, e3⟩ := e
    unfold allInts at h
    split at h
    · rename_i r' q
      cases h
      rw [e1, R_int e2, allInts_ok q e3]
      rfl
    · cases h
  | .non :: _, _, _, h, _ => by cases h
  | .bl _ :: _, _, _, h, _ => by cases h
  | .str _ :: _, _, _, h, _ => by cases h
  | .ty _ :: _, _, _, h, _ => by cases h
  | .adr _ :: _, _, _, h, _ => by cases h
  | .tup _ :: _, _, _, h, _ => by cases h
  | .lst _ :: _, _, _, h, _ => by cases h
  | .scr _ :: _, _, _, h, _ => by cases h
  | .cls _ :: _, _, _, h, _ => by cases h
  | .obj _ _ _ :: _, _, _, h, _ => by cases h
  | .exc _ _ _ :: _, _, _, h, _ => by cases h
def sumX (xs : List Xv) (s : Sto) : Res := match xs with
  | [.d (.scr a)] => okI a.sum s
  | [x] => match viewL x s with
    | some a => match allInts a with | some ns => okI ns.sum s | none => .stuck
    | none => .stuck
  | _ => .stuck
theorem sum_ok : OpN T W (rSum T.K) sumX := by
  intro st w xs vs s H Q hx r p
  unfold sumX at p
  split at p
  · rename_i a
    obtain ⟨v, rfl, e⟩ := rxs1 hx
    have e' : R T w.G (.scr a) v := e
    unfold R at e'
    obtain ⟨ad, e1, e2⟩ := e'
    subst e1
    exact ⟨_, _, rfl, r.g.seq e2, okI_q p r⟩
  · split at p
    · rename_i a hv
      split at p
      · rename_i ns hi
        obtain ⟨v, rfl, e⟩ := rxs1 hx
        obtain ⟨ad, us, e1, e2, e3⟩ := viewL_ok r e hv
        subst e1
        exact ⟨_, ns, rfl, .of (by rw [e2, allInts_ok hi e3]), okI_q p r⟩
      · exact p.elim
    · exact p.elim
  · exact p.elim
def maxX (xs : List Xv) (s : Sto) : Res := match xs with
  | [.d (.int i), .d (.int j)] => okI (if j > i then j else i) s
  | _ => .stuck
def minX (xs : List Xv) (s : Sto) : Res := match xs with
  | [.d (.int i), .d (.int j)] => okI (if j < i then j else i) s
  | _ => .stuck
theorem max_ok : OpN T W (fun xs H Q => ∃ i j, xs = [.int i, .int j] ∧ Q (.int (if j > i then j else i)) H) maxX := by
  intro st w xs vs s H Q hx r p
  unfold maxX at p
  split at p
  · obtain ⟨v, u, rfl, e, f⟩ := rxs2 hx
    cases X_int e
    cases X_int f
    exact ⟨_, _, rfl, okI_q p r⟩
  · exact p.elim
theorem min_ok : OpN T W (fun xs H Q => ∃ i j, xs = [.int i, .int j] ∧ Q (.int (if j < i then j else i)) H) minX := by
  intro st w xs vs s H Q hx r p
  unfold minX at p
  split at p
  · obtain ⟨v, u, rfl, e, f⟩ := rxs2 hx
    cases X_int e
    cases X_int f
    exact ⟨_, _, rfl, okI_q p r⟩
  · exact p.elim
/-- repr of plain data -/
def reprX (xs : List Xv) (s : Sto) : Res := match xs with
  | [x] => match eqView x s with
    | some a => if (flatS 32 a && PyData.showable (toP a) && decide ((toP a).shown.length ≤ sizeLine)) = true then .ok (.d (.str (toP a).shown)) s else .stuck
    | none => .stuck
  | _ => .stuck
/-! x.bit_length() -/
def bitsF (f : FE) : FE := fun ρ s => (f ρ s).bind fun x s1 => match x with | .d (.int i) => okI (Builtin.Int.intBits i : Nat) s1 | _ => .stuck
theorem pf_bits {o : Expr} {f : FE} {apos pos : Pos} (ho : PF T X W o f) (hbase : attributeBase o "bit_length" X.env (eval o X.env) = eval o X.env := by rfl) (hline : (apos.endLine == pos.line) = true := by rfl) :
    PF T X W (.Call (.Attribute o "bit_length" apos) [] [] pos) (bitsF f) := PE.imp (pe_bits ho hbase hline) fun st H Q ⟨w, ρ, s, e, q, p⟩ => rdE_mono (postE_bind e q p) fun u H1 ⟨w1, x, s1, l1, e1, x1, r1, p1⟩ => by
  split at p1
  · cases X_int x1
    exact ⟨_, rfl, okI_q p1 r1⟩
  · exact p1.elim
end
end FL

set_option Elab.async false
set_option linter.all false
set_option maxRecDepth 100000
set_option maxHeartbeats 4000000
namespace FL
open PySem PySem.Spec PyProof.Rows L2
/-! ### isinstance -/
def tyn : Xv → Sto → Option String
  | .d .non, _ => some "NoneType"
  | .d (.bl _), _ => some "bool"
  | .d (.int _), _ => some "int"
  | .d (.str _), _ => some "str"
  | .d (.tup _), _ => some "tuple"
  | x, s => match viewL x s with | some _ => some "list" | none => none
def knownT : List String := ["NoneType", "bool", "int", "str", "tuple", "list"]
def isiB (a b : String) : Bool := a == b || (a == "bool" && b == "int")
theorem isiB_ok : ∀ a ∈ knownT, ∀ b ∈ knownT, kitB a b = some (isiB a b) := by decide +kernel
structure OwnC (K : PySem.W.Frag) (C : Addr) : Prop where
  cl : Cls K C
  ha : PySem.W.findIn K (.ref C) "__class__" = some (some (.builtin "object.__class__"))
  hn : PySem.W.specialIn K (.builtin "object.__class__") "__get__" = some (some (.builtin "getset_descriptor.__get__"))
  ht : PySem.W.takesIn K (.builtin "object.__class__") = some true
  hm : PySem.W.mroIn K C (.type "object") = some true
/-- what is known of the classes -/
structure TxOk (T : Tx) (own : Nat → Bool) : Prop where
  bi : ∀ t ∈ knownT, ∀ c, c < T.n → PySem.W.kitOne T.K (.type t) (.ref (T.ct c)) = some false
  ob : ∀ c d, c < T.n → d < T.n → PySem.W.kitOne T.K (.ref (T.ct c)) (.ref (T.ct d)) = some (T.sub c d)
  ot : ∀ c, c < T.n → own c = true → ∀ t ∈ knownT, PySem.W.kitOne T.K (.ref (T.ct c)) (.type t) = some false
  ow : ∀ c, c < T.n → own c = true → OwnC T.K (T.ct c)
section
variable {T : Tx} {X : Cx} {W : WX} {own : Nat → Bool}
def isiX (n : Nat) (sub : Nat → Nat → Bool) (own : Nat → Bool) (xs : List Xv) (s : Sto) : Res := match xs with
  | [.d (.obj c _ _), .d (.cls k)] => if c < n ∧ k < n ∧ own c = true then okB (sub c k) s else .stuck
  | [.d (.obj c _ _), .d (.ty m)] => if c < n ∧ knownT.contains m = true ∧ own c = true then okB false s else .stuck
  | [x, .d (.ty m)] => match tyn x s with
    | some t => if knownT.contains m = true then okB (isiB t m) s else .stuck
    | none => .stuck
  | [x, .d (.cls k)] => match tyn x s with
    | some _ => if k < n then okB false s else .stuck
    | none => .stuck
  | _ => .stuck
theorem tyn_mem {x : Xv} {s : Sto} {t : String} (h : tyn x s = some t) : t ∈ knownT := by
  unfold tyn at h
  split at h
  iterate 5
    · cases h
      decide
  · split at h
    · cases h
      decide
    · cases h
theorem tyn_ok {w : Wd} {s : Sto} {H : Hp} {x : Xv} {v : V} {t : String} (r : RS T w s H) (e : RX T w x v) (h : tyn x s = some t) : TyX T.K H v (.type t) := by
  unfold tyn at h
  split at h
  · cases h
    cases X_non e
    exact .base .non
  · cases h
    cases X_bl e
    exact .base (.bl _)
  · cases h
    cases X_int e
    exact .base (.int _)
  · cases h
    cases X_str e
    exact .base (.str _)
  · rename_i s' xs
    cases h
    have e' : R T w.G (.tup xs) v := e
    unfold R at e'
    obtain ⟨a, vs, e1, e2, e3⟩ := e'
    subst e1
    rcases e2 with (e2 | ⟨o, e2⟩) | ⟨o, its, n, k1, k2, _⟩
    · exact .base (.tup (r.g _ _ e2))
    · exact .fTuple (r.g _ _ e2)
    · exact .kTuple k1 k2
  · split at h
    · rename_i xs hv
      cases h
      obtain ⟨a, us, e1, e2, e3⟩ := viewL_ok r e hv
      subst e1
      exact .base (.lst e2)
    · cases h
theorem cls_v {w : Wd} {k : Nat} {v : V} (h : RX T w (.d (.cls k)) v) : v = .ref (T.ct k) := by
  have h' : R T w.G (.cls k) v := h
  unfold R at h'
  exact h'
theorem ty_v {w : Wd} {k : String} {v : V} (h : RX T w (.d (.ty k)) v) : v = .ty k := by
  have h' : R T w.G (.ty k) v := h
  unfold R at h'
  exact h'
theorem obj_ty {w : Wd} {s : Sto} {H : Hp} {c : Nat} {ns : List Str} {xs : List D} {v : V} (r : RS T w s H) (O : OwnC T.K (T.ct c)) (h : RX T w (.d (.obj c ns xs)) v) : TyX T.K H v (.ref (T.ct c)) := by
  have h' : R T w.G (.obj c ns xs) v := h
  unfold R at h'
  obtain ⟨a, dx, fs, e1, e2, _⟩ := h'
  subst e1
  exact .base (.ins (r.g _ _ e2) O.cl O.ha O.hn O.ht O.hm)
theorem isi_ok (K : TxOk T own) : OpN T W (rIsi T.K) (isiX T.n T.sub own) := by
  intro st w xs vs s H Q hx r p
  unfold isiX at p
  split at p
  · obtain ⟨v, u, rfl, e, f⟩ := rxs2 hx
    split at p
    · rename_i h
      cases cls_v f
      exact ⟨_, _, _, _, _, rfl, .own _, obj_ty r (K.ow _ h.1 h.2.2) e, K.ob _ _ h.1 h.2.1, okB_q p r⟩
    · exact p.elim
  · obtain ⟨v, u, rfl, e, f⟩ := rxs2 hx
    split at p
    · rename_i h
      cases ty_v f
      exact ⟨_, _, _, _, _, rfl, .ty _, obj_ty r (K.ow _ h.1 h.2.2) e, K.ot _ h.1 h.2.2 _ (List.contains_iff_mem.mp h.2.1), okB_q p r⟩
    · exact p.elim
  · obtain ⟨v, u, rfl, e, f⟩ := rxs2 hx
    split at p
    · rename_i t ht
      split at p
      · rename_i h
        cases ty_v f
        exact ⟨_, _, _, _, _, rfl, .ty _, tyn_ok r e ht, kit_ty (isiB_ok _ (tyn_mem ht) _ (List.contains_iff_mem.mp h)), okB_q p r⟩
      · exact p.elim
    · exact p.elim
  · obtain ⟨v, u, rfl, e, f⟩ := rxs2 hx
    split at p
    · rename_i t ht
      split at p
      · rename_i h
        cases cls_v f
        exact ⟨_, _, _, _, _, rfl, .own _, tyn_ok r e ht, K.bi _ (tyn_mem ht) _ h, okB_q p r⟩
      · exact p.elim
    · exact p.elim
  · exact p.elim

/-! ### defs -/
/-- room, and no repr is under way -/
structure RoomG (k : Nat) (A : Around) : Prop where
  room : Room k A
  gd : A.guards = some []
theorem RoomG.mono {j k : Nat} {A : Around} (r : RoomG k A) (h : j ≤ k) : RoomG j A := ⟨r.room.mono h, r.gd⟩
theorem RoomG.deeper {k : Nat} {A : Around} (r : RoomG (k + 1) A) (env : Env) : RoomG k (A.deeper env) := ⟨r.room.deeper env, r.gd⟩
/-- a def keeps its promise, where there is such room -/
structure FnG (P : Program) (w : World) (K : PySem.W.Frag) (mg : Str → Option Value) (base : Heap) (k : Nat) (f : Addr) (fd : FuncData) (ps : List Str) (sp : Sp) : Prop where
  len : ∀ vs H Q E, sp vs H Q E → vs.length = ps.length
  run : ∀ (A : Around) (outer : List Env) (s : Shared) (H : Hp) (args : Args) (us : List Value) (vs : List V) (Q : VK) (E : XK), RoomG k A → Env0 P w K mg base A outer s H →
    BindsTo s fd args (ps.zip us) → Vals vs us → sp vs H Q E → codeAny (model P w) A (.call (.ref f) args) (CR (L2.CX P w) outer P w H s Q E) s
theorem FnG.mono {P : Program} {w : World} {K : PySem.W.Frag} {mg : Str → Option Value} {base : Heap} {j k : Nat} {f : Addr} {fd : FuncData} {ps : List Str} {sp : Sp} (F : FnG P w K mg base j f fd ps sp) (h : j ≤ k) : FnG P w K mg base k f fd ps sp :=
  ⟨F.len, fun A outer s H args us vs Q E hr => F.run A outer s H args us vs Q E (hr.mono h)⟩
theorem FnG.imp {P : Program} {w : World} {K : PySem.W.Frag} {mg : Str → Option Value} {base : Heap} {k : Nat} {f : Addr} {fd : FuncData} {ps : List Str} {sp sp' : Sp} (F : FnG P w K mg base k f fd ps sp) (h : ∀ vs H Q E, sp' vs H Q E → sp vs H Q E) : FnG P w K mg base k f fd ps sp' :=
  ⟨fun vs H Q E q => F.len vs H Q E (h _ _ _ _ q), fun A outer s H args us vs Q E hr he hb hv hs => F.run A outer s H args us vs Q E hr he hb hv (h _ _ _ _ hs)⟩
/-- a def by its body -/
theorem fnG_of {P : Program} {w : World} {K : PySem.W.Frag} {mg : Str → Option Value} {base : Heap} {k : Nat} {f : Addr} {name qual : Str} {params : Arguments} {body : List Stmt} {scope : Scope} {dV kV doc pm cdv ct oc : Value} {an od : Option Addr} {osl : Array (Option Value)} {N ps : List Str} {sp : Sp}
    (lk : K.lookup f = some ⟨oc, od, .func (PySem.W.fnOf name qual params body scope dV kV doc pm an cdv ct), osl⟩) (hcd : PySem.W.codeIn K cdv qual = true) (S : FnScope N ps scope) (len : ∀ vs H Q E, sp vs H Q E → vs.length = ps.length)
    (hbody : ∀ (A : Around) (outer : List Env) (s : Shared) (H : Hp) (vs : List V) (Q : VK) (E : XK), RoomG k (A.deeper (envOfC qual scope s.heap.objs.size f cdv)) → sp vs H Q E →
      ∃ t, PSs (cxOf (L2.CX P w) P w K mg base N qual scope f cdv A outer s H E) body t ∧ t { nx := fun _ H' => Q .non H', rt := Q } (start N vs) H) :
    FnG P w K mg base (k + 1) f (PySem.W.fnOf name qual params body scope dV kV doc pm an cdv ct) ps sp := by
  refine ⟨len, fun A outer s H args us vs Q E hr e0 hb r hsp => ?_⟩
  have kin : K.In s.heap := e0.mod.kin.keeps fun b o e => (e0.bs b o e).1
  have nolim : s.heap.NoLimit := e0.mod.nolimit.keeps fun b o e => (e0.bs b o e).1
  have ck : ∀ y ∈ ps.zip us, scope.names.lookup y.1 = some .local ∨ (scope.names.lookup y.1 = some .cell ∧ ((cellsFrom (s.heap.objs.size + 1) scope.names []).lookup y.1).isSome = true) := by
    rintro ⟨n, v⟩ hy
    exact (S.par n (List.of_mem_zip hy).1).imp id fun q => ⟨q, PySem.W.cellsFrom_some _ _ _ (.inl q)⟩
  refine codeAny_call_function hr.room.depth (kin _ _ lk) rfl S.co S.gen rfl (PySem.W.codeRec_of kin hcd) (hb _ _ _ _ ?_)
  refine wpAny_newFunctionEnv_cells S.kind ck fun env he s1 x => ?_
  subst he
  refine ⟨nolim.keeps x.toInCall.keep, codeAny_func ?_⟩
  obtain ⟨t, ht, hq⟩ := hbody A outer s H vs Q E (hr.deeper _) hsp
  have I0 := inv_start (CX := L2.CX P w) (E := E) (P := P) (w := w) (cd := cdv) (f := f) (qual := qual) S hr.room.hd e0 (len _ _ _ _ hsp) r x
  refine wpAny_mono (ht.run [] s1 (start N vs) H _ I0 hq) (fun fl s' hs => ?_) fun e s' hs => hs
  cases fl with
  | next =>
    obtain ⟨σ', H', J, q⟩ := hs
    exact ⟨.non, H', J.os, J.bare, J.base, J.hok, rfl, q⟩
  | ret u =>
    obtain ⟨v, σ', H', J, rv, q⟩ := hs
    exact ⟨v, H', J.os, J.bare, J.base, J.hok, rv, q⟩
  | brk => exact hs.elim fun _ z => z.elim fun _ z => z.2.elim
  | cont => exact hs.elim fun _ z => z.elim fun _ z => z.2.elim
/-- a callee runs; what it raises is wished for at the caller's slots -/
theorem run_fnG {k : Nat} {f : Addr} {fd : FuncData} {ps : List Str} {sp : Sp} {dvs : List V} {ds : List Value} {E : XK} {pins : List (Addr × Obj)} {σ : L2.St} {H : Hp} {s : Shared} {Q : VK} {us : List Value} {vs : List V}
    (F : FnG X.prog X.w X.K X.mg X.base k f fd ps sp) (hr : RoomG k X.A) (hb : Binds X.K fd ps ds) (hd : Vals dvs ds) (hx : PassesAt (L2.CX X.prog X.w) X σ E) (I : Inv X pins σ H s) (r : Vals vs us) (h : sp (vs ++ dvs) H Q E) :
    wpAny (model X.prog X.w) X.A (call (.ref f) us) (EP X pins σ Q) X.xe s := by
  have ra : Vals (vs ++ dvs) (us ++ ds) := r.append hd
  have hl : (us ++ ds).length = ps.length := ra.length.symm.trans (F.len _ _ _ _ h)
  refine wpAny_call (codeAny_mono (F.run X.A X.stack s H ⟨us, []⟩ _ _ Q E hr I.env0 (hb s us I.kIn hl) ra h) fun res s' hq => ?_)
  cases res with
  | error e => exact hx pins H s e s' I hq
  | ok fl =>
    cases fl with
    | ret u => exact I.after hq
    | next => exact (show False from hq).elim
    | brk => exact (show False from hq).elim
    | cont => exact (show False from hq).elim
def tCallG (sp : Sp) (dvs : List V) (E : L2.St → XK) (t : TA) : TE := fun σ H Q => t σ H fun vs H1 => sp (vs ++ dvs) H1 Q (E σ)
theorem pe_callG {k : Nat} {f : Addr} {fd : FuncData} {ps : List Str} {sp : Sp} {dvs : List V} {ds : List Value} {E : L2.St → XK} {x : Str} {p pos : Pos} {e : Expr} {es : List Expr} {t : TA}
    (F : FnG X.prog X.w X.K X.mg X.base k f fd ps sp) (hr : RoomG k X.A) (hg : Gl X x) (hm : X.mg x = some (.ref f)) (hk : PySem.W.keepIn X.K (.ref f) = true) (hb : Binds X.K fd ps ds) (hd : Vals dvs ds) (hx : ∀ σ, PassesAt (L2.CX X.prog X.w) X σ (E σ))
    (ha : PA X (e :: es) t) (hdb : (x == ("__debug__" : Str)) = false := by decide) (he : starEach (e :: es) X.env = (false, eval e X.env) :: starEach es X.env := by rfl) (hpl : (backTo pos (starEach es X.env)).any (·.1) = false := by rfl) :
    PE X (.Call (.Name x p) (e :: es) [] pos) (tCallG sp dvs E t) := ⟨fun pins s σ H Q I h =>
  wpAny_Call_Name_kw (ld_glob I hg hm (PySem.W.callWith_K (h₀ := X.base) I.ok.mod.kin hk (thn (ha.run pos pins s σ H _ I h) fun us s1 ⟨vs, H1, I1, r, q⟩ => ⟨I1.kIn, run_fnG F hr hb hd (hx σ) I1 r q⟩) he hpl) hdb)⟩
theorem pe_callG0 {k : Nat} {f : Addr} {fd : FuncData} {ps : List Str} {sp : Sp} {dvs : List V} {ds : List Value} {E : L2.St → XK} {x : Str} {p pos : Pos}
    (F : FnG X.prog X.w X.K X.mg X.base k f fd ps sp) (hr : RoomG k X.A) (hg : Gl X x) (hm : X.mg x = some (.ref f)) (hk : PySem.W.keepIn X.K (.ref f) = true) (hb : Binds X.K fd ps ds) (hd : Vals dvs ds) (hx : ∀ σ, PassesAt (L2.CX X.prog X.w) X σ (E σ))
    (hdb : (x == ("__debug__" : Str)) = false := by decide) : PE X (.Call (.Name x p) [] [] pos) (tCallG sp dvs E tNil) := ⟨fun pins s σ H Q I h =>
  wpAny_Call_Name_kw (ld_glob I hg hm (PySem.W.callWith_K0 I.kIn hk (run_fnG (us := []) F hr hb hd (hx σ) I .nil h)) hdb)⟩
end
end FL

set_option Elab.async false
set_option linter.all false
set_option maxRecDepth 100000
set_option maxHeartbeats 4000000
namespace FL
open PySem PySem.Spec PyProof.Rows L2
/-- what a def computes: of values and the changing objects handed in -/
abbrev Fn := List Xv → Sto → Res
def PostC (T : Tx) (w : Wd) (r : Res) (Q : VK) (E : XK) : Prop := match r with
  | .ok v s => ∀ w' u H', Le w w' → RX T w' v u → RS T w' s H' → Q u H'
  | .exc e s => ∀ w' cls d H', Le w w' → RExc T w' e cls d → RS T w' s H' → E cls d H'
  | .stuck => False
/-- the promise: n values, F says the rest -/
def spF (T : Tx) (n : Nat) (F : Fn) : Sp := fun vs H Q E => ∃ w ds s, ds.length = n ∧ RXs T w ds vs ∧ RS T w s H ∧ PostC T w (F ds s) Q E
/-- a body as a function -/
def bodyF (n : Nat) (f : FS) : Fn := fun ds s => match f (ds.map some ++ List.replicate n none) s with
  | .nx _ s' => .ok (.d .non) s'
  | .rt v s' => .ok v s'
  | .exc e _ s' => .exc e s'
  | _ => .stuck
section
variable {T : Tx} {X : Cx} {W : WX}
theorem re_start {w : Wd} {ds : List Xv} {vs : List V} {N : List Str} {n : Nat} (h : RXs T w ds vs) (hn : n = N.length - vs.length) : RE T w (ds.map some ++ List.replicate n none) (L2.start N vs) := by
  have hl := h.length
  refine ⟨by unfold L2.start; simp [hl, hn], fun i v e => ?_⟩
  have hi : i < ds.length := by
    by_cases hi : i < ds.length
    · exact hi
    · rw [List.getElem?_append_right (by simpa using hi), List.getElem?_replicate] at e
      split at e <;> cases e
  rw [List.getElem?_append_left (by simpa using hi), List.getElem?_map] at e
  have key : ∀ (ds : List Xv) (vs : List V) (i : Nat) (v : Xv), RXs T w ds vs → ds[i]? = some v → ∃ u, vs[i]? = some u ∧ RX T w v u := by
    intro ds
    induction ds with
    | nil => intro vs i v _ h; simp at h
    | cons d ds ih =>
      rintro vs i v ⟨u, r, e1, e2, e3⟩ h
      subst e1
      cases i with
      | zero =>
        simp at h
        subst h
        exact ⟨u, rfl, e2⟩
      | succ i => exact ih r i v e3 (by simpa using h)
  cases q : ds[i]? with
  | none => rw [q] at e; cases e
  | some d =>
    rw [q] at e
    cases e
    obtain ⟨u, e1, e2⟩ := key ds vs i v h q
    refine ⟨u, ?_, e2⟩
    unfold L2.start
    rw [List.getElem?_append_left (by rw [List.length_map, ← hl]; exact hi), List.getElem?_map, e1]
    rfl
/-- THE RULE: a def by its body -/
theorem fn_mk {P : Program} {w : World} {K : PySem.W.Frag} {mg : Str → Option Value} {base : Heap} {k : Nat} {x qual : Str} {params : Arguments} {body : List Stmt} {scope : Scope} {dvs : List V} {kws : List (Str × V)} {f : Addr} {fd : FuncData} {N ps : List Str} {fs : FS}
    (F : FunD K x qual params body scope dvs kws f fd) (S : FnScope N ps scope)
    (h : ∀ (X : Cx) (W : WX), X.prog = P → X.w = w → X.K = K → X.mg = mg → X.base = base → X.calm = true → X.N = N → X.ex = [] → X.env.scope = scope → X.stack = X.env :: X.outer → X.env.frame = some X.env.locals → (∀ y, X.fn y = true) →
      RoomG k X.A → Takes X W → PassesOwn (model X.prog X.w) X.A X.env X.xe → PFSs T X W body fs) :
    FnG P w K mg base (k + 1) f fd ps (spF T ps.length (bodyF (N.length - ps.length) fs)) := by
  obtain ⟨oc, od, dV, kV, doc, pm, an, cdv, ct, osl, rfl, lk, hcd, _, _⟩ := F.ex
  refine fnG_of lk hcd S (fun vs H Q E ⟨w, ds, s, h1, h2, _⟩ => by rw [← h2.length]; exact h1) fun A outer s H vs Q E hr ⟨w0, ds, s0, h1, h2, h3, h4⟩ => ?_
  have hl := h2.length
  refine ⟨_, h (cxOf (L2.CX P w) P w K mg base N qual scope f cdv A outer s H E) (fun cls d _ H => E cls d H) rfl rfl rfl rfl rfl rfl rfl rfl rfl rfl rfl (fun _ => rfl) hr (takes_of rfl rfl rfl rfl) (passes_of rfl), ?_⟩
  refine ⟨w0, ds.map some ++ List.replicate (N.length - ps.length) none, s0, re_start h2 (by rw [← hl, h1]), h3, ?_⟩
  unfold bodyF at h4
  revert h4
  cases fs (ds.map some ++ List.replicate (N.length - ps.length) none) s0 with
  | nx r s' => exact fun p w' st H' l e1 e2 => p w' _ H' l rX_non e2
  | rt v s' => exact fun p w' u H' l e1 e2 => p w' u H' l e1 e2
  | exc e r s' => exact fun p w' cls d st H' l e1 _ e2 => p w' cls d H' l e1 e2
  | bk r s' => exact fun p => p.elim
  | ct r s' => exact fun p => p.elim
  | stuck => exact fun p => p.elim

/-! ### a call -/
/-- the changing objects among the values -/
def refsOf : List Xv → List Nat
  | [] => []
  | .d _ :: xs => refsOf xs
  | .ref i :: xs => i :: refsOf xs
/-- a new object goes on: as it is (m), or as plain data -/
def mkO (m : Bool) (o : O) (s : Sto) : Res := match m, o with
  | true, .dead => .stuck
  | true, o => .ok (.ref s.length) (s ++ [o])
  | false, .lst xs => .ok (.d (.lst xs)) s
  | false, .ins c ns vs => .ok (.d (.obj c ns vs)) s
  | false, .dead => .stuck
/-- plain values alone: the callee begins with no object -/
def run0 (m : Bool) (F : Fn) (xs : List Xv) (s : Sto) : Res := match F xs [] with
  | .ok (.d v) _ => .ok (.d v) s
  | .ok (.ref j) s2 => match s2[j]? with | some o => mkO m o s | none => .stuck
  | .exc e _ => .exc e s
  | .stuck => .stuck
def zero : List Xv → List Xv
  | [] => []
  | .d v :: xs => .d v :: zero xs
  | .ref _ :: xs => .ref 0 :: zero xs
def get0 : Sto → Option O
  | .dead :: _ => none
  | o :: _ => some o
  | [] => none
theorem get0_ok : ∀ {s : Sto} {o : O}, get0 s = some o → s[0]? = some o ∧ o ≠ .dead
  | .dead :: _, _, h => by cases h
  | .lst xs :: _, _, h => by cases h; exact ⟨rfl, fun z => nomatch z⟩
  | .ins _ _ _ :: _, _, h => by cases h; exact ⟨rfl, fun z => nomatch z⟩
  | [], _, h => by cases h
/-- one object is handed in -/
def run1 (m : Bool) (F : Fn) (xs : List Xv) (i : Nat) (s : Sto) : Res := match s[i]? with
  | some .dead => .stuck
  | none => .stuck
  | some o => match F (zero xs) [o] with
    | .ok (.d v) s2 => match get0 s2 with | some o2 => .ok (.d v) (s.set i o2) | none => .stuck
    | .ok (.ref j) s2 => match get0 s2 with
      | some o2 => if j = 0 then .ok (.ref i) (s.set i o2) else match s2[j]? with | some u => mkO m u (s.set i o2) | none => .stuck
      | none => .stuck
    | .exc e s2 => match get0 s2 with | some o2 => .exc e (s.set i o2) | none => .stuck
    | .stuck => .stuck
def allEq (i : Nat) : List Nat → Bool
  | [] => true
  | j :: r => j == i && allEq i r
def runC (m : Bool) (F : Fn) (xs : List Xv) (s : Sto) : Res := match refsOf xs with
  | [] => run0 m F xs s
  | i :: r => if allEq i r = true then run1 m F xs i s else .stuck
def callF (m : Bool) (F : Fn) (dv : List D) (g : FA) : FE := fun ρ s => (g ρ s).bind fun xs s1 => runC m F (xs ++ dv.map .d) s1
/-- what lives -/
def Lv (w : Wd) (s : Sto) (a : Addr) : Prop := ∃ (i : Nat) (o : O), s[i]? = some o ∧ o ≠ .dead ∧ w.io[i]? = some a
open Classical in
/-- all live objects but one are held -/
noncomputable def hold (w : Wd) (s : Sto) (H : Hp) (b : Option Addr) : Hp := fun a => if Lv w s a ∧ some a ≠ b then H a else w.Z a
theorem hold_lv {w : Wd} {s : Sto} {H : Hp} {b : Option Addr} {a : Addr} (h : Lv w s a) (hb : some a ≠ b) : hold w s H b a = H a := if_pos ⟨h, hb⟩
theorem hold_z {w : Wd} {s : Sto} {H : Hp} {b : Option Addr} {a : Addr} {o : HO} (r : RS T w s H) (h : w.Z a = some o) : hold w s H b a = some o := by
  unfold hold
  rw [if_neg, h]
  rintro ⟨⟨i, u, e1, e2, e3⟩, _⟩
  obtain ⟨_, _, _, _, z⟩ := r.live i u a e1 e2 e3
  rw [z] at h
  cases h
theorem hold_same {w : Wd} {s : Sto} {H : Hp} {b : Option Addr} (r : RS T w s H) : Same (hold w s H b) H := fun a o h => by
  unfold hold at h
  split at h
  · exact h
  · exact r.z _ _ h
theorem hold_g {w : Wd} {s : Sto} {H : Hp} {b : Option Addr} (r : RS T w s H) {a : Addr} {o : HO} (h : hold w s H b a = some o) : w.G a = none := by
  unfold hold at h
  split at h
  · rename_i q
    obtain ⟨⟨i, u, e1, e2, e3⟩, _⟩ := q
    obtain ⟨_, _, _, z, _⟩ := r.live i u a e1 e2 e3
    exact z
  · exact r.gz _ _ h
theorem rxs_pure {w w' : Wd} (hg : w'.G = w.G) : ∀ {xs : List Xv} {vs : List V}, refsOf xs = [] → RXs T w xs vs → RXs T w' xs vs
  | [], vs, _, e => e
  | .d x :: xs, vs, h, ⟨v, r, e1, e2, e3⟩ => ⟨v, r, e1, by
    show R T w'.G x v
    rw [hg]
    exact e2, rxs_pure hg h e3⟩
  | .ref _ :: xs, vs, h, _ => by cases h
theorem RX.sameG {w w' : Wd} {x : D} {v : V} (hg : w'.G = w.G) (h : RX T w (.d x) v) : RX T w' (.d x) v := by
  show R T w'.G x v
  rw [hg]
  exact h
/-- behind a call that was handed no object: the caller's world -/
theorem back0 {w w' : Wd} {s s' : Sto} {H H' : Hp} (r : RS T w s H) (l : Le { w with io := [], Z := hold w s H none } w') (r' : RS T w' s' H') : Le w { w with G := w'.G } ∧ RS T { w with G := w'.G } s H' := by
  have zz : ∀ {a : Addr} {o : HO}, hold w s H none a = some o → H' a = some o ∧ w'.G a = none := fun {a o} h => by
    have e : w'.Z = hold w s H none := l.z
    exact ⟨r'.z _ _ (by rw [e]; exact h), r'.gz a o (by rw [e]; exact h)⟩
  refine ⟨⟨l.g, rfl, [], by simp⟩, ⟨r'.g, fun a o h => (zz (hold_z r h)).1, fun a o h => (zz (hold_z r h)).2, r.len, fun i o a e1 e2 e3 => ?_, r.inj⟩⟩
  obtain ⟨ho, h1, h2, h3, h4⟩ := r.live i o a e1 e2 e3
  have q := zz ((hold_lv (w := w) (s := s) (H := H) (b := none) ⟨i, o, e1, e2, e3⟩ (by intro z; cases z)).trans h1)
  exact ⟨ho, q.1, RO.mono l.g h2, q.2, h4⟩
/-- a callee's new object -/
theorem new_of {w w' : Wd} {s s' : Sto} {H H' : Hp} {b : Option Addr} (r : RS T w s H) (hz : w'.Z = hold w s H b) (r' : RS T w' s' H') {j : Nat} {o : O} {a : Addr} (e1 : s'[j]? = some o) (e2 : o ≠ .dead) (e3 : w'.io[j]? = some a) (hb : some a ≠ b) :
    ∃ ho, H' a = some ho ∧ RO T w'.G o ho ∧ w'.G a = none ∧ w.Z a = none ∧ ¬ Lv w s a := by
  obtain ⟨ho, h1, h2, h3, h4⟩ := r'.live j o a e1 e2 e3
  have nl : ¬ Lv w s a := fun hl => by
    rw [hz, hold_lv hl hb] at h4
    obtain ⟨i, u, q1, q2, q3⟩ := hl
    obtain ⟨_, k, _⟩ := r.live i u a q1 q2 q3
    rw [h4] at k
    cases k
  refine ⟨ho, h1, h2, h3, ?_, nl⟩
  cases z : w.Z a with
  | none => rfl
  | some u =>
    rw [hz, hold_z (b := b) r z] at h4
    cases h4
/-- a new object joins the store, or the plain data -/
theorem join_new {W : WX} {st : L2.St} {w : Wd} {s : Sto} {H : Hp} {m : Bool} {o : O} {ho : HO} {a : Addr} {Q : VK} (r : RS T w s H) (h1 : H a = some ho) (h2 : RO T w.G o ho) (h3 : w.G a = none) (h4 : w.Z a = none) (h5 : ¬ Lv w s a) (p : PostE T W st w (mkO m o s) Q) : Q (.ref a) H := by
  have keep : o ≠ .dead → Le w { w with io := w.io ++ [a] } ∧ RS T { w with io := w.io ++ [a] } (s ++ [o]) H := fun hd => by
    have at1 : ∀ {i : Nat} {v : O} {b : Addr}, (s ++ [o])[i]? = some v → (w.io ++ [a])[i]? = some b → (s[i]? = some v ∧ w.io[i]? = some b) ∨ (i = s.length ∧ v = o ∧ b = a) := fun {i v b} e1 e3 => by
      by_cases hi : i < s.length
      · rw [List.getElem?_append_left hi] at e1
        rw [List.getElem?_append_left (by rw [r.len]; exact hi)] at e3
        exact .inl ⟨e1, e3⟩
      · have hb := (List.getElem?_eq_some_iff.mp e1).1
        have hi2 : i = s.length := by simp at hb; omega
        rw [hi2, List.getElem?_append_right (Nat.le_refl _)] at e1
        rw [hi2, List.getElem?_append_right (by rw [r.len]; exact Nat.le_refl _), r.len] at e3
        simp at e1 e3
        exact .inr ⟨hi2, e1.symm, e3.symm⟩
    refine ⟨⟨Same.refl _, rfl, [a], rfl⟩, ⟨r.g, r.z, r.gz, by simp [r.len], fun i v b e1 e2 e3 => ?_, fun i j v v' b e1 e2 e3 e4 e5 e6 => ?_⟩⟩
    · rcases at1 e1 e3 with ⟨q1, q2⟩ | ⟨_, q2, q3⟩
      · exact r.live i v b q1 e2 q2
      · subst q2 q3
        exact ⟨ho, h1, h2, h3, h4⟩
    · rcases at1 e1 e5 with ⟨q1, q2⟩ | ⟨q1, q2, q3⟩
      · rcases at1 e3 e6 with ⟨k1, k2⟩ | ⟨_, _, k3⟩
        · exact r.inj i j v v' b q1 e2 k1 e4 q2 k2
        · exact absurd ⟨i, v, q1, e2, by rw [← k3]; exact q2⟩ h5
      · rcases at1 e3 e6 with ⟨k1, k2⟩ | ⟨k1, _, _⟩
        · exact absurd ⟨j, v', k1, e4, by rw [← q3]; exact k2⟩ h5
        · rw [q1, k1]
  have froz : Le w { w with G := upd w.G a ho } ∧ RS T { w with G := upd w.G a ho } s H := by
    have sg : Same w.G (upd w.G a ho) := fun b u e => by rw [upd_ne (ne_of_none e h3)]; exact e
    refine ⟨⟨sg, rfl, [], by simp⟩, ⟨fun b u e => ?_, r.z, fun b u e => ?_, r.len, fun i u b e1 e2 e3 => ?_, r.inj⟩⟩
    · by_cases hb : b = a
      · subst hb
        have e' : upd w.G b ho b = some u := e
        rw [upd_same] at e'
        rw [h1]
        exact e'
      · have e' : upd w.G a ho b = some u := e
        rw [upd_ne hb] at e'
        exact r.g _ _ e'
    · have hb : b ≠ a := ne_of_none e h4
      show upd w.G a ho b = none
      rw [upd_ne hb]
      exact r.gz _ _ e
    · obtain ⟨hb, q1, q2, q3, q4⟩ := r.live i u b e1 e2 e3
      have hne : b ≠ a := fun z => h5 ⟨i, u, e1, e2, by rw [← z]; exact e3⟩
      exact ⟨hb, q1, RO.mono sg q2, by show upd w.G a ho b = none; rw [upd_ne hne]; exact q3, q4⟩
  unfold mkO at p
  split at p
  · exact p.elim
  · rename_i o' hd
    obtain ⟨l, r'⟩ := keep (fun z => hd z)
    refine p _ _ _ l ⟨a, ?_, rfl⟩ r'
    show (w.io ++ [a])[s.length]? = some a
    rw [← r.len]
    simp
  · obtain ⟨l, r'⟩ := froz
    obtain ⟨vs, e1, e2⟩ := h2
    refine p _ _ _ l ?_ r'
    show R T _ _ _
    unfold R
    exact ⟨a, vs, rfl, by show upd w.G a ho a = _; rw [upd_same, e1], Rs.mono l.g e2⟩
  · obtain ⟨l, r'⟩ := froz
    obtain ⟨dx, fs, e1, e2, e3⟩ := h2
    refine p _ _ _ l ?_ r'
    show R T _ _ _
    unfold R
    exact ⟨a, dx, fs, rfl, by show upd w.G a ho a = _; rw [upd_same, e1], e2, Rs.mono l.g e3⟩
  · exact p.elim
theorem rexc_g {w w' : Wd} {e : D} {cls : Value} {d : Option Addr} (hg : w'.G = w.G) (h : RExc T w e cls d) : RExc T w' e cls d := by
  obtain ⟨c, ns, xs, fs, h1, h2, h3, h4, h5⟩ := h
  exact ⟨c, ns, xs, fs, h1, h2, by rw [hg]; exact h3, h4, by rw [hg]; exact h5⟩
theorem run0_ok {st : L2.St} {w : Wd} {m : Bool} {F : Fn} {xs : List Xv} {vs : List V} {s : Sto} {H : Hp} {Q : VK} {n : Nat} (hn : xs.length = n) (h0 : refsOf xs = []) (x : RXs T w xs vs) (r : RS T w s H) (p : PostE T W st w (run0 m F xs s) Q) : spF T n F vs H Q (WE W st) := by
  refine ⟨{ w with io := [], Z := hold w s H none }, xs, [], hn, rxs_pure (w := w) (w' := { w with io := [], Z := hold w s H none }) rfl h0 x, ⟨r.g, hold_same r, fun a o h => hold_g r h, rfl, fun i o a e => by simp at e, fun i j o u a e => by simp at e⟩, ?_⟩
  unfold run0 at p
  cases hF : F xs [] with
  | ok v s2 =>
    rw [hF] at p
    intro w' u H' l rx r'
    obtain ⟨l2, r2⟩ := back0 r l r'
    cases v with
    | d v => exact PostE.mono l2 p _ _ _ (.refl _) (RX.sameG (w := w') rfl rx) r2
    | ref j =>
      dsimp only at p
      split at p
      · rename_i o ho
        obtain ⟨a, e1, e2⟩ := rx
        subst e2
        have hd : o ≠ .dead := fun z => by
          subst z
          unfold mkO at p
          cases m <;> exact p.elim
        obtain ⟨h', q1, q2, q3, q4, q5⟩ := new_of r l.z r' ho hd e1 (by intro z; cases z)
        exact join_new r2 q1 q2 q3 q4 q5 (PostE.mono l2 p)
      · exact p.elim
  | exc e s2 =>
    rw [hF] at p
    intro w' cls d H' l rx r'
    obtain ⟨l2, r2⟩ := back0 r l r'
    exact PostE.mono l2 p _ _ _ _ (.refl _) (rexc_g (w := w') rfl rx) r2
  | stuck =>
    rw [hF] at p
    exact p.elim
/-- behind a call that was handed one object -/
theorem back1 {w w' : Wd} {s s' : Sto} {H H' : Hp} {i : Nat} {a : Addr} {o o2 : O} (r : RS T w s H) (e1 : s[i]? = some o) (e2 : o ≠ .dead) (e3 : w.io[i]? = some a) (l : Le { w with io := [a], Z := hold w s H (some a) } w') (r' : RS T w' s' H') (h2 : s'[0]? = some o2) :
    Le w { w with G := w'.G } ∧ RS T { w with G := w'.G } (s.set i o2) H' := by
  have il : i < s.length := (List.getElem?_eq_some_iff.mp e1).1
  have zz : ∀ {b : Addr} {u : HO}, hold w s H (some a) b = some u → H' b = some u ∧ w'.G b = none := fun {b u} h => by
    have e : w'.Z = hold w s H (some a) := l.z
    exact ⟨r'.z _ _ (by rw [e]; exact h), r'.gz b u (by rw [e]; exact h)⟩
  have h0 : w'.io[0]? = some a := by
    obtain ⟨t, e⟩ := l.io
    rw [e]
    rfl
  have back : ∀ (m : Nat) (v : O), (s.set i o2)[m]? = some v → v ≠ .dead → ∃ v0, s[m]? = some v0 ∧ v0 ≠ .dead := fun m v q1 q2 => by
    by_cases hm : i = m
    · subst hm
      exact ⟨o, e1, e2⟩
    · rw [List.getElem?_set_ne hm] at q1
      exact ⟨v, q1, q2⟩
  refine ⟨⟨l.g, rfl, [], by simp⟩, ⟨r'.g, fun b u h => (zz (hold_z r h)).1, fun b u h => (zz (hold_z r h)).2, by simp [r.len], fun j v b q1 q2 q3 => ?_, fun j k v v' b q1 q2 q3 q4 q5 q6 => ?_⟩⟩
  · by_cases hj : i = j
    · subst hj
      have q3' : w.io[i]? = some b := q3
      rw [e3] at q3'
      cases q3'
      rw [List.getElem?_set_self il] at q1
      cases q1
      obtain ⟨ho, k1, k2, k3, _⟩ := r'.live 0 o2 a h2 q2 h0
      obtain ⟨_, _, _, _, k5⟩ := r.live i o a e1 e2 e3
      exact ⟨ho, k1, k2, k3, k5⟩
    · rw [List.getElem?_set_ne hj] at q1
      have q3' : w.io[j]? = some b := q3
      obtain ⟨ho, k1, k2, k3, k4⟩ := r.live j v b q1 q2 q3'
      have hne : b ≠ a := fun z => hj (r.inj i j o v a e1 e2 q1 q2 e3 (by rw [← z]; exact q3'))
      have q := zz ((hold_lv (w := w) (s := s) (H := H) (b := some a) ⟨j, v, q1, q2, q3'⟩ (fun z => hne (Option.some.inj z))).trans k1)
      exact ⟨ho, q.1, RO.mono l.g k2, q.2, k4⟩
  · obtain ⟨v0, k1, k2⟩ := back j v q1 q2
    obtain ⟨v1, k3, k4⟩ := back k v' q3 q4
    exact r.inj j k v0 v1 b k1 k2 k3 k4 q5 q6
theorem rxs_zero {w w' : Wd} {i : Nat} {a : Addr} (hg : w'.G = w.G) (e : w.io[i]? = some a) (e' : w'.io[0]? = some a) : ∀ {xs : List Xv} {vs : List V}, allEq i (refsOf xs) = true → RXs T w xs vs → RXs T w' (zero xs) vs
  | [], vs, _, h => h
  | .d x :: xs, vs, h, ⟨v, r, e1, e2, e3⟩ => ⟨v, r, e1, RX.sameG hg e2, rxs_zero hg e e' h e3⟩
  | .ref j :: xs, vs, h, ⟨v, r, e1, e2, e3⟩ => by
    have h' : (j == i && allEq i (refsOf xs)) = true := h
    rw [Bool.and_eq_true] at h'
    have hj : j = i := by simpa using h'.1
    subst hj
    obtain ⟨b, q1, q2⟩ := e2
    rw [e] at q1
    cases q1
    exact ⟨v, r, e1, ⟨a, e', q2⟩, rxs_zero hg e e' h'.2 e3⟩
theorem zero_length : ∀ xs : List Xv, (zero xs).length = xs.length
  | [] => rfl
  | .d _ :: xs => congrArg Nat.succ (zero_length xs)
  | .ref _ :: xs => congrArg Nat.succ (zero_length xs)
theorem run1_ok {st : L2.St} {w : Wd} {m : Bool} {F : Fn} {xs : List Xv} {vs : List V} {s : Sto} {H : Hp} {Q : VK} {n i : Nat} (hn : xs.length = n) (h0 : allEq i (refsOf xs) = true) (hm : i ∈ refsOf xs) (x : RXs T w xs vs) (r : RS T w s H) (p : PostE T W st w (run1 m F xs i s) Q) : spF T n F vs H Q (WE W st) := by
  unfold run1 at p
  split at p
  · exact p.elim
  · exact p.elim
  · rename_i o hnd hd
    have e2 : o ≠ .dead := fun z => hnd z
    have il : i < w.io.length := by
      rw [r.len]
      exact (List.getElem?_eq_some_iff.mp hd).1
    obtain ⟨a, e3⟩ : ∃ a, w.io[i]? = some a := ⟨_, List.getElem?_eq_getElem il⟩
    obtain ⟨ho, k1, k2, k3, k4⟩ := r.live i o a hd e2 e3
    have rz : ∀ {b : Addr}, hold w s H (some a) a = none := fun {b} => by
      unfold hold
      rw [if_neg (fun z => z.2 rfl)]
      exact k4
    have rr : RS T { w with io := [a], Z := hold w s H (some a) } [o] H := by
      refine ⟨r.g, hold_same r, fun b u h => hold_g r h, rfl, fun j v b q1 q2 q3 => ?_, fun j k u v b q1 _ q2 _ _ _ => ?_⟩
      · have hj : j = 0 := by
          have := (List.getElem?_eq_some_iff.mp q1).1
          simp at this
          exact this
        subst hj
        have q1' : o = v := by simpa using q1
        have q3' : a = b := by
          have q3'' : [a][0]? = some b := q3
          simpa using q3''
        subst q1' q3'
        exact ⟨ho, k1, k2, k3, rz (b := a)⟩
      · have h1 := (List.getElem?_eq_some_iff.mp q1).1
        have h2 := (List.getElem?_eq_some_iff.mp q2).1
        simp at h1 h2
        rw [h1, h2]
    refine ⟨{ w with io := [a], Z := hold w s H (some a) }, zero xs, [o], by rw [zero_length]; exact hn, rxs_zero (w := w) (w' := { w with io := [a], Z := hold w s H (some a) }) rfl e3 rfl h0 x, rr, ?_⟩
    split at p
    · rename_i v s2 hF
      rw [hF]
      split at p
      · rename_i o2 h2g
        obtain ⟨h2, hdd⟩ := get0_ok h2g
        intro w' u H' l rx r'
        obtain ⟨l2, r2⟩ := back1 r hd e2 e3 l r' h2
        exact PostE.mono l2 p _ _ _ (.refl _) (RX.sameG (w := w') rfl rx) r2
      · exact p.elim
    · rename_i j s2 hF
      rw [hF]
      split at p
      · rename_i o2 h2g
        obtain ⟨h2, hdd⟩ := get0_ok h2g
        intro w' u H' l rx r'
        obtain ⟨l2, r2⟩ := back1 r hd e2 e3 l r' h2
        obtain ⟨b, q1, q2⟩ := rx
        have h0' : w'.io[0]? = some a := by
          obtain ⟨t, e⟩ := l.io
          rw [e]
          rfl
        split at p
        · rename_i hj
          subst hj
          rw [h0'] at q1
          cases q1
          exact PostE.mono l2 p _ _ _ (.refl _) ⟨a, e3, q2⟩ r2
        · rename_i hj
          split at p
          · rename_i u2 hu
            subst q2
            have hd2 : u2 ≠ .dead := fun z => by
              subst z
              unfold mkO at p
              cases m <;> exact p.elim
            have hb : some b ≠ some a := fun z => by
              have zb : b = a := Option.some.inj z
              subst zb
              obtain ⟨ho2, g1, g2, g3, g4⟩ := r'.live j u2 b hu hd2 q1
              exact hj (r'.inj j 0 u2 o2 b hu hd2 h2 hdd q1 h0')
            obtain ⟨h', g1, g2, g3, g4, g5⟩ := new_of r l.z r' hu hd2 q1 hb
            refine join_new r2 g1 g2 g3 g4 (fun z => ?_) (PostE.mono l2 p)
            obtain ⟨jj, vv, z1, z2, z3⟩ := z
            refine g5 ?_
            by_cases hjj : i = jj
            · subst hjj
              have z3' : w.io[i]? = some b := z3
              exact ⟨i, o, hd, e2, z3'⟩
            · rw [List.getElem?_set_ne hjj] at z1
              exact ⟨jj, vv, z1, z2, z3⟩
          · exact p.elim
      · exact p.elim
    · rename_i e s2 hF
      rw [hF]
      split at p
      · rename_i o2 h2g
        obtain ⟨h2, hdd⟩ := get0_ok h2g
        intro w' cls d H' l rx r'
        obtain ⟨l2, r2⟩ := back1 r hd e2 e3 l r' h2
        exact PostE.mono l2 p _ _ _ _ (.refl _) (rexc_g (w := w') rfl rx) r2
      · exact p.elim
    · exact p.elim
theorem runC_ok {st : L2.St} {w : Wd} {m : Bool} {F : Fn} {xs : List Xv} {vs : List V} {s : Sto} {H : Hp} {Q : VK} {n : Nat} (hn : xs.length = n) (x : RXs T w xs vs) (r : RS T w s H) (p : PostE T W st w (runC m F xs s) Q) : spF T n F vs H Q (WE W st) := by
  unfold runC at p
  split at p
  · rename_i h
    exact run0_ok hn h x r p
  · rename_i i t h
    split at p
    · rename_i ha
      refine run1_ok (i := i) hn ?_ ?_ x r p
      · rw [h]
        show (i == i && allEq i t) = true
        rw [ha, beq_self_eq_true]
        rfl
      · rw [h]
        exact List.mem_cons_self ..
    · exact p.elim
theorem RXs.append {w : Wd} : ∀ {xs ys : List Xv} {vs us : List V}, RXs T w xs vs → RXs T w ys us → RXs T w (xs ++ ys) (vs ++ us)
  | [], ys, vs, us, e, h => by
    have e' : vs = [] := e
    subst e'
    exact h
  | d :: ds, ys, vs, us, ⟨v, r, e1, e2, e3⟩, h => by
    subst e1
    exact ⟨v, r ++ us, rfl, e2, e3.append h⟩
theorem rxs_of_rs {w : Wd} : ∀ {ds : List D} {vs : List V}, Rs T w.G ds vs → RXs T w (ds.map .d) vs
  | [], vs, h => by
    unfold Rs at h
    exact h
  | d :: ds, vs, h => by
    unfold Rs at h
    obtain ⟨v, r, e1, e2, e3⟩ := h
    exact ⟨v, r, e1, e2, rxs_of_rs e3⟩
/-- f(e, ..) -/
theorem pf_call {k : Nat} {f : Addr} {fd : FuncData} {ps : List Str} {F : Fn} {n : Nat} {dv : List D} {dvs : List V} {ds : List Value} {x : Str} {p pos : Pos} {e : Expr} {es : List Expr} {g : FA} (m : Bool)
    (G : FnG X.prog X.w X.K X.mg X.base k f fd ps (spF T n F)) (hr : RoomG k X.A) (tk : Takes X W) (hm : X.mg x = some (.ref f)) (hk : PySem.W.keepIn X.K (.ref f) = true) (hb : Binds X.K fd ps ds) (hd : Vals dvs ds) (hv : ∀ G, Rs T G dv dvs)
    (ha : PFA T X W (e :: es) g) (hl : (e :: es).length + dv.length = n := by rfl) (hg : Gl X x := by rfl) (hdb : (x == ("__debug__" : Str)) = false := by decide) (he : starEach (e :: es) X.env = (false, eval e X.env) :: starEach es X.env := by rfl)
    (hpl : (backTo pos (starEach es X.env)).any (·.1) = false := by rfl) (hgl : ∀ ρ s xs s1, g ρ s = .ok xs s1 → xs.length = (e :: es).length) :
    PF T X W (.Call (.Name x p) (e :: es) [] pos) (callF m F dv g) :=
  PE.imp (pe_callG (E := WE W) G hr hg hm hk hb hd (fun σ => passAt tk σ) ha hdb he hpl) fun st H Q ⟨w, ρ, s, e0, q, p0⟩ => by
    refine ⟨w, ρ, s, e0, q, ?_⟩
    have hq := hgl ρ s
    unfold callF at p0
    revert p0 hq
    cases g ρ s with
    | exc a b => exact fun p _ => p
    | stuck => exact fun p _ => p
    | ok xs s1 =>
      intro p0 hq w1 us H1 l x1 r1
      exact runC_ok (by rw [List.length_append, List.length_map, hq xs s1 rfl]; exact hl) (x1.append (rxs_of_rs (hv _))) r1 (PostE.mono l p0)
theorem pf_call0 {k : Nat} {f : Addr} {fd : FuncData} {ps : List Str} {F : Fn} {n : Nat} {dv : List D} {dvs : List V} {ds : List Value} {x : Str} {p pos : Pos} (m : Bool)
    (G : FnG X.prog X.w X.K X.mg X.base k f fd ps (spF T n F)) (hr : RoomG k X.A) (tk : Takes X W) (hm : X.mg x = some (.ref f)) (hk : PySem.W.keepIn X.K (.ref f) = true) (hb : Binds X.K fd ps ds) (hd : Vals dvs ds) (hv : ∀ G, Rs T G dv dvs)
    (hl : dv.length = n := by rfl) (hg : Gl X x := by rfl) (hdb : (x == ("__debug__" : Str)) = false := by decide) : PF T X W (.Call (.Name x p) [] [] pos) (callF m F dv nilA) :=
  PE.imp (pe_callG0 (E := WE W) G hr hg hm hk hb hd (fun σ => passAt tk σ) hdb) fun st H Q ⟨w, ρ, s, e0, q, p0⟩ =>
    runC_ok (w := w) (s := s) (xs := dv.map .d) (by rw [List.length_map]; exact hl) (rxs_of_rs (hv _)) q p0
/-- how many values an argument list gives -/
def LenA (g : FA) (n : Nat) : Prop := ∀ ρ s xs s1, g ρ s = .ok xs s1 → xs.length = n
theorem len_nil : LenA nilA 0 := fun ρ s xs s1 h => by
  cases h
  rfl
theorem len_cons {f : FE} {g : FA} {n : Nat} (h : LenA g n) : LenA (consA f g) (n + 1) := fun ρ s xs s1 k => by
  unfold consA at k
  cases hf : f ρ s with
  | exc a b => rw [hf] at k; cases k
  | stuck => rw [hf] at k; cases k
  | ok x s2 =>
    rw [hf] at k
    have k' : (g ρ s2).bindA (fun xs s2 => ResL.ok (x :: xs) s2) = .ok xs s1 := k
    cases hg : g ρ s2 with
    | exc a b => rw [hg] at k'; cases k'
    | stuck => rw [hg] at k'; cases k'
    | ok ys s3 =>
      rw [hg] at k'
      cases k'
      rw [List.length_cons, h _ _ _ _ hg]
end
end FL

set_option Elab.async false
set_option linter.all false
set_option maxRecDepth 100000
set_option maxHeartbeats 4000000
namespace FL
open PySem PySem.Spec PyProof.Rows L2
section
variable {T : Tx} {X : Cx} {W : WX}
theorem RE.set {w : Wd} {ρ : Env'} {st : L2.St} {x : Xv} {v : V} (e : RE T w ρ st) (i : Nat) (h : RX T w x v) : RE T w (ρ.set i (some x)) (st.set i (some v)) := by
  refine ⟨by simp [e.len], fun j y q => ?_⟩
  by_cases hj : i = j
  · subst hj
    have il : i < ρ.length := by
      have := (List.getElem?_eq_some_iff.mp q).1
      simpa using this
    rw [List.getElem?_set_self il] at q
    cases q
    exact ⟨v, by rw [List.getElem?_set_self (by rw [← e.len]; exact il)], h⟩
  · rw [List.getElem?_set_ne hj] at q ⊢
    exact e.at_ j y q
/-! ### small statements -/
def skipS : FS := fun ρ s => .nx ρ s
def Out.andThen (o : Out) (k : Env' → Sto → Out) : Out := match o with
  | .nx r s => k r s
  | o => o
def seqS (a b : FS) : FS := fun ρ s => (a ρ s).andThen b
theorem pfs_nil : PFSs T X W [] skipS := PSs.imp pss_nil fun E st H ⟨w, ρ, s, e, q, p⟩ => p w st H (.refl _) e q
theorem pfs_cons {st : Stmt} {rest : List Stmt} {a b : FS} (h1 : PFS T X W st a) (h2 : PFSs T X W rest b) : PFSs T X W (st :: rest) (seqS a b) := by
  refine PSs.imp (pss_cons h1 h2) fun E σ H ⟨w, ρ, s, e, q, p⟩ => ⟨w, ρ, s, e, q, ?_⟩
  unfold seqS at p
  revert p
  cases a ρ s with
  | nx r s1 => exact fun p w1 σ1 H1 l e1 r1 => ⟨w1, r, s1, e1, r1, PostS.mono l p⟩
  | rt v s1 => exact fun p => p
  | bk r s1 => exact fun p => p
  | ct r s1 => exact fun p => p
  | exc x r s1 => exact fun p => p
  | stuck => exact fun p => p
theorem pfs_one {st : Stmt} {a : FS} (h1 : PFS T X W st a) : PFSs T X W [st] a := pss_one h1
theorem pfs_pass {pos : Pos} : PFS T X W (.Pass pos) skipS := PS.imp ps_pass fun E st H ⟨w, ρ, s, e, q, p⟩ => p w st H (.refl _) e q
theorem pfs_break {pos : Pos} : PFS T X W (.Break pos) (fun ρ s => .bk ρ s) := PS.imp ps_break fun E st H ⟨w, ρ, s, e, q, p⟩ => p w st H (.refl _) e q
theorem pfs_continue {pos : Pos} : PFS T X W (.Continue pos) (fun ρ s => .ct ρ s) := PS.imp ps_continue fun E st H ⟨w, ρ, s, e, q, p⟩ => p w st H (.refl _) e q
def neverS : FS := fun _ _ => .stuck
theorem pfs_never {st : Stmt} : PFS T X W st neverS := PS.imp ps_never fun E st H ⟨w, ρ, s, e, q, p⟩ => p
def retS (f : FE) : FS := fun ρ s => (f ρ s).bindS ρ fun v s1 => .rt v s1
theorem pfs_ret {e : Expr} {f : FE} {pos : Pos} (h : PF T X W e f) : PFS T X W (.Return (some e) pos) (retS f) :=
  PS.imp (ps_ret h) fun E st H ⟨w, ρ, s, e, q, p⟩ => rdE_mono (postS_bind e q p) fun u H1 ⟨w1, x, s1, l1, e1, x1, r1, p1⟩ => p1 w1 u H1 (.refl _) x1 r1
theorem pfs_retN {pos : Pos} : PFS T X W (.Return none pos) (fun _ s => .rt (.d .non) s) := PS.imp ps_retN fun E st H ⟨w, ρ, s, e, q, p⟩ => p w .non H (.refl _) rX_non q
def exprS (f : FE) : FS := fun ρ s => (f ρ s).bindS ρ fun _ s1 => .nx ρ s1
theorem pfs_expr {e : Expr} {f : FE} {pos : Pos} (h : PF T X W e f) (hs : swapsWith e none pos.line X.env = pure false := by rfl) : PFS T X W (.Expr e pos) (exprS f) :=
  PS.imp (ps_expr h hs) fun E st H ⟨w, ρ, s, e, q, p⟩ => rdE_mono (postS_bind e q p) fun u H1 ⟨w1, x, s1, l1, e1, x1, r1, p1⟩ => p1 w1 st H1 (.refl _) e1 r1
def setS (i : Nat) (f : FE) : FS := fun ρ s => (f ρ s).bindS ρ fun v s1 => .nx (ρ.set i (some v)) s1
theorem pfs_set {i : Nat} {x : Str} {e : Expr} {f : FE} {pos pos' : Pos} (hN : X.N.Nodup) (he : PF T X W e f) (hi : X.N[i]? = some x := by rfl) (hx : Loc X.env.scope x := by first | exact .inl rfl | exact .inr rfl) (hs : swapsWith e (some (.Name x pos')) pos.line X.env = pure false := by rfl)
    (hf : X.fn x = true ∨ X.env.scope.names.lookup x = some .local := by first | exact .inl rfl | exact .inr rfl | assumption) : PFS T X W (.Assign [.Name x pos'] e pos) (setS i f) :=
  PS.imp (ps_set hN hi hx he hs hf) fun E st H ⟨w, ρ, s, e, q, p⟩ => rdE_mono (postS_bind e q p) fun u H1 ⟨w1, x, s1, l1, e1, x1, r1, p1⟩ => p1 w1 _ H1 (.refl _) (e1.set i x1) r1
theorem postS_bindT {w : Wd} {st : L2.St} {ρ : Env'} {s : Sto} {H : Hp} {f : FE} {k : Xv → Sto → Out} {E : Ends} (e : RE T w ρ st) (r : RS T w s H) (p : PostS T W w ((f ρ s).bindS ρ k) E) (hk : ∀ x s1, (∃ b, truth x s1 = some b) ∨ k x s1 = .stuck) :
    rdT T W f st H fun b H1 => ∃ w1 v s1, truth v s1 = some b ∧ Le w w1 ∧ RE T w1 ρ st ∧ RS T w1 s1 H1 ∧ PostS T W w1 (k v s1) E := by
  refine ⟨w, ρ, s, e, r, ?_⟩
  cases h : f ρ s with
  | ok v s1 =>
    rw [h] at p
    rcases hk v s1 with ⟨b, eb⟩ | ek
    · exact ⟨b, eb, fun w1 H1 l y => ⟨w1, v, s1, eb, l, e.mono l, y, PostS.mono l p⟩⟩
    · have p' : PostS T W w (k v s1) E := p
      rw [ek] at p'
      exact p'.elim
  | exc x s1 =>
    rw [h] at p
    exact fun w1 c d H1 l x y => p w1 c d st H1 l x (e.mono l) y
  | stuck =>
    rw [h] at p
    exact p
def ifS (c : FE) (a b : FS) : FS := fun ρ s => (c ρ s).bindS ρ fun x s1 => match truth x s1 with | some true => a ρ s1 | some false => b ρ s1 | none => .stuck
theorem pfs_if {c : Expr} {x y : List Stmt} {f : FE} {a b : FS} {pos : Pos} (hc : PFT T X W c f) (ha : PFSs T X W x a) (hb : PFSs T X W y b) : PFS T X W (.If c x y pos) (ifS f a b) :=
  PS.imp (ps_if hc ha hb) fun E st H ⟨w, ρ, s, e, q, p⟩ => rdT_mono (postS_bindT e q p (fun x s1 => by
      cases h : truth x s1 with
      | some b => exact .inl ⟨_, rfl⟩
      | none => exact .inr rfl)) fun b H1 ⟨w1, x, s1, eb, l1, e1, r1, p1⟩ => by
    rw [eb] at p1
    cases b with
    | true =>
      rw [if_pos rfl]
      exact ⟨w1, ρ, s1, e1, r1, p1⟩
    | false =>
      rw [if_neg Bool.false_ne_true]
      exact ⟨w1, ρ, s1, e1, r1, p1⟩
/-! a, b = e1, e2 with plain local names -/
def par2S (i j : Nat) (g : FA) : FS := fun ρ s => match g ρ s with
  | .ok [x, y] s1 => .nx ((ρ.set i (some x)).set j (some y)) s1
  | .exc e s1 => .exc e ρ s1
  | _ => .stuck
theorem pfs_par2 {i j : Nat} {x y : Str} {a b : Expr} {g : FA} {px py pt pos : Pos} {kt k2 pt2} (hc : X.calm = true) (hN : X.N.Nodup) (ha : PFA T X W [a, b] g) (hi : X.N[i]? = some x := by rfl) (hj : X.N[j]? = some y := by rfl) (hij : i ≠ j := by decide)
    (hx : X.env.scope.names.lookup x = some .local := by rfl) (hy : X.env.scope.names.lookup y = some .local := by rfl) (hw : swappedStores [.Tuple [.Name x px, .Name y py] kt pt] (.Tuple [a, b] k2 pt2) X.env = pure (some [x, y]) := by rfl)
    (hs : swapsWithSole [.Tuple [.Name x px, .Name y py] kt pt] (.Tuple [a, b] k2 pt2) pos.line X.env = pure false := by rfl) : PFS T X W (.Assign [.Tuple [.Name x px, .Name y py] kt pt] (.Tuple [a, b] k2 pt2) pos) (par2S i j g) :=
  PS.imp (ps_par hc hN hi hj hij hx hy ha hw hs) fun E st H ⟨w, ρ, s, e, q, p⟩ => by
    refine ⟨w, ρ, s, e, q, ?_⟩
    unfold par2S at p
    revert p
    cases g ρ s with
    | exc z s1 => exact fun p w1 c d H1 l x y => p w1 c d st H1 l x (e.mono l) y
    | stuck => exact fun p => p
    | ok xs s1 =>
      intro p w1 us H1 l x1 r1
      match xs, p, x1 with
      | [u, v], p, x1 =>
        obtain ⟨a1, b1, e1, q1, q2⟩ := rxs2 x1
        exact ⟨a1, b1, e1, p w1 _ H1 l (((e.mono l).set i q1).set j q2) r1⟩
      | [], p, _ => exact p.elim
      | [_], p, _ => exact p.elim
      | _ :: _ :: _ :: _, p, _ => exact p.elim
def par3S (i j k : Nat) (g : FA) : FS := fun ρ s => match g ρ s with
  | .ok [x, y, z] s1 => .nx (((ρ.set i (some x)).set j (some y)).set k (some z)) s1
  | .exc e s1 => .exc e ρ s1
  | _ => .stuck
theorem pfs_par3 {i j l : Nat} {x y z : Str} {a b c : Expr} {g : FA} {px py pz pt pos : Pos} {kt k2 pt2} (hc : X.calm = true) (hN : X.N.Nodup) (ha : PFA T X W [a, b, c] g) (hi : X.N[i]? = some x := by rfl) (hj : X.N[j]? = some y := by rfl) (hl : X.N[l]? = some z := by rfl) (hij : i ≠ j := by decide) (hil : i ≠ l := by decide) (hjl : j ≠ l := by decide)
    (hx : X.env.scope.names.lookup x = some .local := by rfl) (hy : X.env.scope.names.lookup y = some .local := by rfl) (hz : X.env.scope.names.lookup z = some .local := by rfl) (hw : swappedStores [.Tuple [.Name x px, .Name y py, .Name z pz] kt pt] (.Tuple [a, b, c] k2 pt2) X.env = pure (some [x, y, z]) := by rfl)
    (hs : swapsWithSole [.Tuple [.Name x px, .Name y py, .Name z pz] kt pt] (.Tuple [a, b, c] k2 pt2) pos.line X.env = pure false := by rfl) : PFS T X W (.Assign [.Tuple [.Name x px, .Name y py, .Name z pz] kt pt] (.Tuple [a, b, c] k2 pt2) pos) (par3S i j l g) :=
  PS.imp (ps_par3 hc hN hi hj hl hij hil hjl hx hy hz ha hw hs) fun E st H ⟨w, ρ, s, e, q, p⟩ => by
    refine ⟨w, ρ, s, e, q, ?_⟩
    unfold par3S at p
    revert p
    cases g ρ s with
    | exc z s1 => exact fun p w1 c d H1 l x y => p w1 c d st H1 l x (e.mono l) y
    | stuck => exact fun p => p
    | ok xs s1 =>
      intro p w1 us H1 l x1 r1
      match xs, p, x1 with
      | [u, v, z], p, x1 =>
        obtain ⟨a1, r, e1, q1, q2⟩ := x1
        obtain ⟨b1, c1, e2, q3, q4⟩ := rxs2 q2
        subst e2
        exact ⟨a1, b1, c1, e1, p w1 _ H1 l ((((e.mono l).set i q1).set j q3).set _ q4) r1⟩
      | [], p, _ => exact p.elim
      | [_], p, _ => exact p.elim
      | [_, _], p, _ => exact p.elim
      | _ :: _ :: _ :: _ :: _, p, _ => exact p.elim

/-! ### targets -/
/-- a target: it stores at the slots ix alone -/
def rdG (T : Tx) (asg : Xv → Env' → Option Env') (ix : List Nat) : TG := fun v st H Q => ∃ w ρ s x r1, RX T w x v ∧ RE T w ρ st ∧ RS T w s H ∧ asg x ρ = some r1 ∧
  ∀ w' st' H', Le w w' → RE T w' r1 st' → RS T w' s H' → st'.length = st.length → (∀ j, j ∉ ix → st'[j]? = st[j]?) → Q st' H'
abbrev PFG (T : Tx) (X : Cx) (tg : Expr) (asg : Xv → Env' → Option Env') (ix : List Nat) : Prop := PG X tg (rdG T asg ix)
theorem PG.imp {tg : Expr} {t t' : TG} (h : PG X tg t) (k : ∀ v st H Q, t' v st H Q → t v st H Q) : PG X tg t' := ⟨fun pins s σ H v u Q I r q => h.run pins s σ H v u Q I r (k _ _ _ _ q)⟩
def nameG (i : Nat) : Xv → Env' → Option Env' := fun x ρ => some (ρ.set i (some x))
theorem pfg_name {i : Nat} {x : Str} {pos : Pos} (hN : X.N.Nodup) (hi : X.N[i]? = some x := by rfl) (hx : Loc X.env.scope x := by first | exact .inl rfl | exact .inr rfl) (hf : X.fn x = true ∨ X.env.scope.names.lookup x = some .local := by first | exact .inl rfl | exact .inr rfl | assumption) :
    PFG T X (.Name x pos) (nameG i) [i] := PG.imp (pg_name hN hi hx hf) fun v st H Q ⟨w, ρ, s, x, r1, x1, e1, q1, e, p⟩ => by
  cases e
  exact p w _ H (.refl _) (e1.set i x1) q1 (by simp) fun j hj => List.getElem?_set_ne (by simpa [eq_comm] using hj)
/-- several targets -/
def rdGs (T : Tx) (asg : List D → Env' → Option Env') (ix : List Nat) : TGs := fun vs st H Q => ∃ w ρ s xs r1, Rs T w.G xs vs ∧ RE T w ρ st ∧ RS T w s H ∧ asg xs ρ = some r1 ∧
  ∀ w' st' H', Le w w' → RE T w' r1 st' → RS T w' s H' → st'.length = st.length → (∀ j, j ∉ ix → st'[j]? = st[j]?) → Q st' H'
theorem PGs.imp {tg : List Expr} {t t' : TGs} (h : PGs X tg t) (k : ∀ v st H Q, t' v st H Q → t v st H Q) : PGs X tg t' := ⟨fun pins s σ H v u Q I r q => h.run pins s σ H v u Q I r (k _ _ _ _ q)⟩
def nilG : List D → Env' → Option Env' := fun xs ρ => match xs with | [] => some ρ | _ => none
def consG (a : Xv → Env' → Option Env') (b : List D → Env' → Option Env') : List D → Env' → Option Env' := fun xs ρ => match xs with
  | x :: xs => match a (.d x) ρ with | some r => b xs r | none => none
  | [] => none
theorem pfgs_nil : PGs X [] (rdGs T nilG []) := PGs.imp pgs_nil fun vs st H Q ⟨w, ρ, s, xs, r1, x1, e1, q1, e, p⟩ => by
  unfold nilG at e
  split at e
  · cases e
    unfold Rs at x1
    exact ⟨x1, p w st H (.refl _) e1 q1 rfl fun _ _ => rfl⟩
  · cases e
theorem pfgs_cons {e : Expr} {es : List Expr} {a : Xv → Env' → Option Env'} {b : List D → Env' → Option Env'} {ia ib : List Nat} (h1 : PFG T X e a ia) (h2 : PGs X es (rdGs T b ib)) (hs : (assignEach (e :: es) X.env).map (·.2) = assign e X.env :: (assignEach es X.env).map (·.2) := by rfl) :
    PGs X (e :: es) (rdGs T (consG a b) (ia ++ ib)) := PGs.imp (pgs_cons h1 h2 hs) fun vs st H Q ⟨w, ρ, s, xs, r1, x1, e1, q1, e, p⟩ => by
  unfold consG at e
  split at e
  · rename_i x xs
    split at e
    · rename_i r2 ha
      unfold Rs at x1
      obtain ⟨v, r, f1, f2, f3⟩ := x1
      refine ⟨v, r, f1, w, ρ, s, .d x, r2, f2, e1, q1, ha, fun w1 st1 H1 l1 g1 g2 g3 g4 => ⟨w1, r2, s, xs, r1, Rs.mono l1.g f3, g1, g2, e, fun w2 st2 H2 l2 k1 k2 k3 k4 => p w2 st2 H2 (l1.trans l2) k1 k2 (k3.trans g3) fun j hj => ?_⟩⟩
      rw [List.mem_append, not_or] at hj
      exact (k4 j hj.2).trans (g4 j hj.1)
    · cases e
  · cases e
def tupG (n : Nat) (b : List D → Env' → Option Env') : Xv → Env' → Option Env' := fun x ρ => match x with
  | .d (.tup xs) => if xs.length = n then b xs ρ else none
  | _ => none
theorem pfg_tup {es : List Expr} {k : Nat} {b : List D → Env' → Option Env'} {ix : List Nat} {n : Nat} {pos : Pos} (hK : X.K = T.K) (hc : X.calm = true) (h : PGs X es (rdGs T b ix)) (hn : (assignEach es X.env).length = n := by rfl) (hst : (assignEach es X.env).findIdx? (·.1) = none := by rfl) :
    PFG T X (.Tuple es k pos) (tupG n b) ix := PG.imp (pg_tup hc h hn hst) fun v st H Q ⟨w, ρ, s, x, r1, x1, e1, q1, e, p⟩ => by
  unfold tupG at e
  split at e
  · rename_i xs
    split at e
    · rename_i hl
      obtain ⟨a, vs, f1, f2, f3⟩ := viewT_ok (xs := xs) q1 x1 rfl
      exact ⟨a, vs, f1, by rw [hK]; exact f2, by rw [← f3.length]; exact hl, w, ρ, s, xs, r1, f3, e1, q1, e, p⟩
    · cases e
  · cases e
/-- target = e -/
def asgS (asg : Xv → Env' → Option Env') (f : FE) : FS := fun ρ s => (f ρ s).bindS ρ fun v s1 => match asg v ρ with | some r => .nx r s1 | none => .stuck
theorem pfs_asg {tg e : Expr} {f : FE} {asg : Xv → Env' → Option Env'} {ix : List Nat} {pos : Pos} (he : PF T X W e f) (hg : PFG T X tg asg ix) (hs : swapsWithSole [tg] e pos.line X.env = pure false := by rfl) (hw : swappedStores [tg] e X.env = pure none := by rfl)
    (h1 : (assignEach [tg] X.env).map (·.2) = [assign tg X.env] := by rfl) : PFS T X W (.Assign [tg] e pos) (asgS asg f) :=
  PS.imp (ps_asg he hg hs hw h1) fun E st H ⟨w, ρ, s, e, q, p⟩ => rdE_mono (postS_bind e q p) fun u H1 ⟨w1, x, s1, l1, e1, x1, r1, p1⟩ => by
    split at p1
    · rename_i r2 ha
      exact ⟨w1, ρ, s1, x, r2, x1, e1, r1, ha, fun w2 st2 H2 l2 k1 k2 _ _ => p1 w2 st2 H2 l2 k1 k2⟩
    · exact p1.elim
end
end FL

set_option Elab.async false
set_option linter.all false
set_option maxRecDepth 100000
set_option maxHeartbeats 4000000
namespace FL
open PySem PySem.Spec PyProof.Rows L2
section
variable {T : Tx} {X : Cx} {W : WX}
/-! ### what is walked -/
structure Wk (T : Tx) (G : Hp) (J : It) (xs : List D) : Prop where
  go : ∀ (i : Nat) (x : D) (w : Wd) (s : Sto) (H : Hp), xs[i]? = some x → Same G w.G → RS T w s H → J.go i H ∧ ∀ v H', J.yld i H v H' → ∃ w', Le w w' ∧ RX T w' (.d x) v ∧ RS T w' s H'
  stop : ∀ (w : Wd) (s : Sto) (H : Hp), Same G w.G → RS T w s H → J.stop xs.length H
theorem Wk.mono {G G' : Hp} {J : It} {xs : List D} (h : Same G G') (k : Wk T G J xs) : Wk T G' J xs := ⟨fun i x w s H e g => k.go i x w s H e (h.trans g), fun w s H g => k.stop w s H (h.trans g)⟩
def PostI (T : Tx) (W : WX) (st : L2.St) (w : Wd) (r : Res) (Q : It → Hp → Prop) : Prop := match r with
  | .ok (.d (.lst xs)) s => ∀ w' J H', Le w w' → Wk T w'.G J xs → RS T w' s H' → Q J H'
  | .ok _ _ => False
  | .exc e s => ∀ w' cls d H', Le w w' → RExc T w' e cls d → RS T w' s H' → W cls d st H'
  | .stuck => False
theorem PostI.mono {st : L2.St} {w w' : Wd} {r : Res} {Q : It → Hp → Prop} (h : Le w w') (p : PostI T W st w r Q) : PostI T W st w' r Q := by
  unfold PostI at p ⊢
  split at p
  · exact fun w1 J H' l => p w1 J H' (h.trans l)
  · exact p.elim
  · exact fun w1 c d H' l => p w1 c d H' (h.trans l)
  · exact p.elim
def rdI (T : Tx) (W : WX) (f : FE) : TI := fun st H Q => ∃ w r s, RE T w r st ∧ RS T w s H ∧ PostI T W st w (f r s) Q
abbrev PFI (T : Tx) (X : Cx) (W : WX) (tg e : Expr) (f : FE) : Prop := PI X tg e (rdI T W f)
theorem PI.imp {tg e : Expr} {t t' : TI} (h : PI X tg e t) (k : ∀ st H Q, t' st H Q → t st H Q) : PI X tg e t' := ⟨fun pins s σ H R I q => h.run pins s σ H R I (k _ _ _ q)⟩
/-- a list or a tuple -/
def iSeq (K : PySem.W.Frag) (tl : TE) : TI := fun σ H R => tl σ H fun x H1 => ∃ a, x = .ref a ∧ (((∃ xs, SqL K H1 a xs) ∧ R (Itl K a) H1) ∨ ((∃ xs, SqT K H1 a xs) ∧ R (Itt K a) H1))
theorem pi_seq {tg l : Expr} {tl : TE} (hl : PE X l tl) : PI X tg l (iSeq X.K tl) := ⟨fun pins s σ H R I h => by
  refine thn (hl.run pins s σ H _ I h) fun v s1 ⟨x, H1, I1, r1, a, e, q1⟩ => ?_
  subst e
  have e : v = .ref a := r1
  subst e
  rcases q1 with ⟨⟨xs, hq⟩, q⟩ | ⟨⟨xs, hq⟩, q⟩
  · obtain ⟨its, rv, p, hz⟩ := I1.list hq
    refine wpAny_pyIter_list p.isList ?_
    refine ⟨s1.heap.objs.size, [s1.heap.objs.size], fun i h => h.IsListIter s1.heap.objs.size a i, Itl X.K a, H1, rfl, I1.kept fun b o e => Heap.get?_push_of_some _ e, turn_list a _, ?_, fun b hb => ?_, q⟩
    · exact ⟨_, Heap.get?_push_size s1.1 rfl, rfl, rfl⟩
    · have e : b = s1.heap.objs.size := by simpa using hb
      subst e
      exact I1.fpOk (Nat.le_refl _) (I1.hok.fresh (Nat.le_refl _))
  · obtain ⟨its, rv, p, hz⟩ := I1.tuple hq
    refine wpAny_pyIter_tuple p ?_
    refine ⟨s1.heap.objs.size, [s1.heap.objs.size], fun i h => h.IsTupleIter s1.heap.objs.size a i, Itt X.K a, H1, rfl, I1.kept fun b o e => Heap.get?_push_of_some _ e, turn_tuple a _, ?_, fun b hb => ?_, q⟩
    · exact ⟨_, Heap.get?_push_size s1.1 rfl, rfl, rfl⟩
    · have e : b = s1.heap.objs.size := by simpa using hb
      subst e
      exact I1.fpOk (Nat.le_refl _) (I1.hok.fresh (Nat.le_refl _))⟩
theorem wk_lst {G : Hp} {a : Addr} {vs : List V} {xs : List D} (e : SqL T.K G a vs) (h : Rs T G xs vs) : Wk T G (Itl T.K a) xs := by
  refine ⟨fun i x w s H hi g r => ?_, fun w s H g r => ?_⟩
  · have e' := r.g.seq (g.seq e)
    obtain ⟨v, hv, rv⟩ := h.get hi
    refine ⟨⟨vs, v, e', hv⟩, ?_⟩
    rintro u H' ⟨rfl, k⟩
    have q := k vs e'
    rw [hv] at q
    cases q
    exact ⟨w, .refl _, R.mono g rv, r⟩
  · exact ⟨vs, r.g.seq (g.seq e), Nat.le_of_eq h.length.symm⟩
theorem wk_tup {G : Hp} {a : Addr} {vs : List V} {xs : List D} (e : SqT T.K G a vs) (h : Rs T G xs vs) : Wk T G (Itt T.K a) xs := by
  refine ⟨fun i x w s H hi g r => ?_, fun w s H g r => ?_⟩
  · have e' := sqT_mono r.g (sqT_mono g e)
    obtain ⟨v, hv, rv⟩ := h.get hi
    refine ⟨⟨vs, v, e', hv⟩, ?_⟩
    rintro u H' ⟨rfl, k⟩
    have q := k vs e'
    rw [hv] at q
    cases q
    exact ⟨w, .refl _, R.mono g rv, r⟩
  · exact ⟨vs, sqT_mono r.g (sqT_mono g e), Nat.le_of_eq h.length.symm⟩
def rngD (lo : Int) (n : Nat) : List D := (List.range n).map fun k : Nat => D.int (lo + (k : Int))
theorem wk_rng {G : Hp} (lo : Int) (n : Nat) : Wk T G (Itr lo n) (rngD lo n) := by
  refine ⟨fun i x w s H hi g r => ?_, fun w s H g r => ?_⟩
  · unfold rngD at hi
    rw [List.getElem?_map] at hi
    have il : i < n := by
      by_cases q : i < n
      · exact q
      · rw [List.getElem?_eq_none (by simpa using q)] at hi
        cases hi
    rw [List.getElem?_range il] at hi
    cases hi
    refine ⟨il, ?_⟩
    rintro u H' ⟨rfl, rfl⟩
    exact ⟨w, .refl _, rX_int, r⟩
  · show n ≤ (rngD lo n).length
    unfold rngD
    simp
def iterF (f : FE) : FE := fun ρ s => (f ρ s).bind fun x s1 => match x with
  | .d (.tup xs) => .ok (.d (.lst xs)) s1
  | .d (.lst xs) => .ok (.d (.lst xs)) s1
  | .d (.scr ns) => .ok (.d (.lst (ns.map .int))) s1
  | _ => .stuck
theorem postI_bind {st : L2.St} {w : Wd} {ρ : Env'} {s : Sto} {H : Hp} {f : FE} {k : Xv → Sto → Res} {Q : It → Hp → Prop} (e : RE T w ρ st) (r : RS T w s H) (p : PostI T W st w ((f ρ s).bind k) Q) :
    rdE T W f st H fun u H1 => ∃ w1 v s1, Le w w1 ∧ RE T w1 ρ st ∧ RX T w1 v u ∧ RS T w1 s1 H1 ∧ PostI T W st w1 (k v s1) Q := by
  refine ⟨w, ρ, s, e, r, ?_⟩
  cases h : f ρ s with
  | ok v s1 =>
    rw [h] at p
    exact fun w1 u H1 l x y => ⟨w1, v, s1, l, e.mono l, x, y, PostI.mono l p⟩
  | exc x s1 =>
    rw [h] at p
    exact p
  | stuck =>
    rw [h] at p
    exact p
theorem postI_bindL {st : L2.St} {w : Wd} {ρ : Env'} {s : Sto} {H : Hp} {f : FA} {k : List Xv → Sto → Res} {Q : It → Hp → Prop} (e : RE T w ρ st) (r : RS T w s H) (p : PostI T W st w ((f ρ s).bind k) Q) :
    rdA T W f st H fun u H1 => ∃ w1 v s1, Le w w1 ∧ RE T w1 ρ st ∧ RXs T w1 v u ∧ RS T w1 s1 H1 ∧ PostI T W st w1 (k v s1) Q := by
  refine ⟨w, ρ, s, e, r, ?_⟩
  cases h : f ρ s with
  | ok v s1 =>
    rw [h] at p
    exact fun w1 u H1 l x y => ⟨w1, v, s1, l, e.mono l, x, y, PostI.mono l p⟩
  | exc x s1 =>
    rw [h] at p
    exact p
  | stuck =>
    rw [h] at p
    exact p
theorem pfi_seq {tg e : Expr} {f : FE} (hK : X.K = T.K) (h : PF T X W e f) : PFI T X W tg e (iterF f) := PI.imp (pi_seq h) fun st H Q ⟨w, ρ, s, e, q, p⟩ => rdE_mono (postI_bind e q p) fun u H1 ⟨w1, x, s1, l1, e1, x1, r1, p1⟩ => by
  rw [hK]
  split at p1
  · rename_i xs
    obtain ⟨a, vs, f1, f2, f3⟩ := (show R T w1.G (.tup xs) u from x1 : _)
    exact ⟨a, f1, .inr ⟨⟨vs, sqT_mono r1.g f2⟩, p1 w1 _ H1 (.refl _) (wk_tup f2 f3) r1⟩⟩
  · rename_i xs
    have x1' : R T w1.G (.lst xs) u := x1
    unfold R at x1'
    obtain ⟨a, vs, f1, f2, f3⟩ := x1'
    exact ⟨a, f1, .inl ⟨⟨vs, .of (r1.g _ _ f2)⟩, p1 w1 _ H1 (.refl _) (wk_lst (.of f2) f3) r1⟩⟩
  · rename_i ns
    have x1' : R T w1.G (.scr ns) u := x1
    unfold R at x1'
    obtain ⟨a, f1, f2⟩ := x1'
    exact ⟨a, f1, .inl ⟨⟨_, r1.g.seq f2⟩, p1 w1 _ H1 (.refl _) (wk_lst f2 (rs_ints ns)) r1⟩⟩
  · exact p1.elim
def rng1F (g : FA) : FE := fun ρ s => (g ρ s).bind fun xs s1 => match xs with
  | [.d (.int j)] => if -(2 ^ 62) ≤ j ∧ j < 2 ^ 62 then .ok (.d (.lst (rngD 0 j.toNat))) s1 else .stuck
  | _ => .stuck
def rng2F (g : FA) : FE := fun ρ s => (g ρ s).bind fun xs s1 => match xs with
  | [.d (.int i), .d (.int j)] => if -(2 ^ 62) ≤ i ∧ i < 2 ^ 62 ∧ -(2 ^ 62) ≤ j ∧ j < 2 ^ 62 then .ok (.d (.lst (rngD i (j - i).toNat))) s1 else .stuck
  | _ => .stuck
theorem pfi_range1 {tg a : Expr} {g : FA} {p pos : Pos} (hm : X.mg "range" = none) (ha : PFA T X W [a] g) (hg : Gl X "range" := by rfl) (hs : starEach [a] X.env = [(false, eval a X.env)] := by rfl) : PFI T X W tg (.Call (.Name "range" p) [a] [] pos) (rng1F g) :=
  PI.imp (pi_range1 hg hm ha hs) fun st H Q ⟨w, ρ, s, e, q, p⟩ => rdA_mono (postI_bindL e q p) fun us H1 ⟨w1, xs, s1, l1, e1, x1, r1, p1⟩ => by
    split at p1
    · rename_i j
      split at p1
      · rename_i h
        obtain ⟨v, rfl, x2⟩ := rxs1 x1
        cases X_int x2
        exact ⟨j, rfl, h.1, h.2, p1 w1 _ H1 (.refl _) (wk_rng 0 _) r1⟩
      · exact p1.elim
    · exact p1.elim
theorem pfi_range2 {tg a b : Expr} {g : FA} {p pos : Pos} (hm : X.mg "range" = none) (ha : PFA T X W [a, b] g) (hg : Gl X "range" := by rfl) (hs : starEach [a, b] X.env = [(false, eval a X.env), (false, eval b X.env)] := by rfl) (hs2 : starEach [b] X.env = [(false, eval b X.env)] := by rfl) :
    PFI T X W tg (.Call (.Name "range" p) [a, b] [] pos) (rng2F g) :=
  PI.imp (pi_range2 hg hm ha hs hs2) fun st H Q ⟨w, ρ, s, e, q, p⟩ => rdA_mono (postI_bindL e q p) fun us H1 ⟨w1, xs, s1, l1, e1, x1, r1, p1⟩ => by
    split at p1
    · rename_i i j
      split at p1
      · rename_i h
        obtain ⟨v, u, rfl, x2, x3⟩ := rxs2 x1
        cases X_int x2
        cases X_int x3
        exact ⟨i, j, rfl, h, p1 w1 _ H1 (.refl _) (wk_rng i _) r1⟩
      · exact p1.elim
    · exact p1.elim

/-! ### for -/
def forF (asg : Xv → Env' → Option Env') (b : FS) : List D → Env' → Sto → Out
  | [], ρ, s => .nx ρ s
  | x :: xs, ρ, s => match asg (.d x) ρ with
    | none => .stuck
    | some r => match b r s with
      | .nx r1 s1 => forF asg b xs r1 s1
      | .ct r1 s1 => forF asg b xs r1 s1
      | .bk r1 s1 => .nx r1 s1
      | o => o
def forS (asg : Xv → Env' → Option Env') (f : FE) (b : FS) : FS := fun ρ s => (f ρ s).bindS ρ fun x s1 => match x with
  | .d (.lst xs) => forF asg b xs ρ s1
  | _ => .stuck
theorem pfs_for {tg iter : Expr} {body : List Stmt} {f : FE} {b : FS} {asg : Xv → Env' → Option Env'} {ix : List Nat} {pos : Pos} (hp : PassesOwn (model X.prog X.w) X.A X.env X.xe) (hc : X.calm = true) (hi : PFI T X W tg iter f) (hg : PFG T X tg asg ix) (hb : PFSs T X W body b)
    (hf : ∀ x, foldedSetIterable iter X.env x = pure x := by exact fun _ => rfl) : PFS T X W (.For tg iter body [] pos) (forS asg f b) :=
  PS.imp (ps_for hp hc hi hg hb hf) fun E st H ⟨w, ρ, s, e, q, p⟩ => by
    refine ⟨w, ρ, s, e, q, ?_⟩
    unfold forS at p
    revert p
    cases f ρ s with
    | exc x s1 => exact fun p w1 c d H1 l x y => p w1 c d st H1 l x (e.mono l) y
    | stuck => exact fun p => p
    | ok v s1 =>
      intro p
      unfold Res.bindS at p
      dsimp only at p
      split at p
      · rename_i xs
        intro w1 J H1 l k r1
        refine ⟨fun i m σ H' => ∃ w2 ρ2 s2, RE T w2 ρ2 σ ∧ RS T w2 s2 H' ∧ Same w1.G w2.G ∧ i ≤ xs.length ∧ m = xs.length - i ∧ PostS T W w2 (forF asg b (xs.drop i) ρ2 s2) E,
          ⟨xs.length, w1, ρ, s1, e.mono l, r1, .refl _, Nat.zero_le _, rfl, PostS.mono l p⟩, ?_⟩
        rintro i m σ H' ⟨w2, ρ2, s2, e2, r2, g2, il, rfl, p2⟩
        rcases Nat.lt_or_ge i xs.length with hi | hi
        · refine .inr ?_
          have hx : xs[i]? = some xs[i] := List.getElem?_eq_getElem hi
          obtain ⟨hgo, hy⟩ := k.go i _ w2 s2 H' hx g2 r2
          refine ⟨hgo, fun σ' H'' => ∃ w3 ρ3 s3, RE T w3 ρ3 σ' ∧ RS T w3 s3 H'' ∧ Same w1.G w3.G ∧ PostS T W w3 (forF asg b (xs.drop (i + 1)) ρ3 s3) E, ?_, ?_⟩
          · rintro σ' H'' ⟨w3, ρ3, s3, e3, r3, g3, p3⟩
            exact ⟨xs.length - (i + 1), by omega, w3, ρ3, s3, e3, r3, g3, hi, rfl, p3⟩
          · intro v H'' hv
            obtain ⟨w3, l3, x3, r3⟩ := hy v H'' hv
            rw [List.drop_eq_getElem_cons hi] at p2
            unfold forF at p2
            split at p2
            · exact p2.elim
            · rename_i r ha
              refine ⟨w3, ρ2, s2, _, r, x3, e2.mono l3, r3, ha, fun w4 st4 H4 l4 e4 r4 _ _ => ?_⟩
              refine ⟨w4, r, s2, e4, r4, ?_⟩
              have p4 := PostS.mono (l3.trans l4) p2
              have g4 : Same w1.G w4.G := g2.trans (l3.trans l4).g
              revert p4
              cases b r s2 with
              | nx r5 s5 => exact fun p4 w5 st5 H5 l5 e5 r5 => ⟨w5, _, _, e5, r5, g4.trans l5.g, PostS.mono l5 p4⟩
              | ct r5 s5 => exact fun p4 w5 st5 H5 l5 e5 r5 => ⟨w5, _, _, e5, r5, g4.trans l5.g, PostS.mono l5 p4⟩
              | bk r5 s5 => exact fun p4 => p4
              | rt v5 s5 => exact fun p4 => p4
              | exc x5 r5 s5 => exact fun p4 => p4
              | stuck => exact fun p4 => p4
        · have hi' : i = xs.length := by omega
          subst hi'
          rw [List.drop_length] at p2
          exact .inl ⟨k.stop w2 s2 H' g2 r2, p2 w2 σ H' (.refl _) e2 r2⟩
      · exact p.elim

/-! ### while -/
def whileN (c : FE) (b : FS) : Nat → Env' → Sto → Out
  | 0, _, _ => .stuck
  | n + 1, ρ, s => (c ρ s).bindS ρ fun x s1 => match truth x s1 with
    | some true => match b ρ s1 with
      | .nx r1 s2 => whileN c b n r1 s2
      | .ct r1 s2 => whileN c b n r1 s2
      | .bk r1 s2 => .nx r1 s2
      | o => o
    | some false => .nx ρ s1
    | none => .stuck
def whileS (μ : Env' → Sto → Nat) (c : FE) (b : FS) : FS := fun ρ s => whileN c b (μ ρ s) ρ s
theorem pfs_while {c : Expr} {body : List Stmt} {f : FE} {b : FS} {pos : Pos} (μ : Env' → Sto → Nat) (hp : PassesOwn (model X.prog X.w) X.A X.env X.xe) (hc : PFT T X W c f) (hb : PFSs T X W body b) : PFS T X W (.While c body [] pos) (whileS μ f b) :=
  PS.imp (ps_while hp hc hb) fun E st H ⟨w, ρ, s, e, q, p⟩ => by
    refine ⟨fun m σ H' => ∃ w2 ρ2 s2, RE T w2 ρ2 σ ∧ RS T w2 s2 H' ∧ PostS T W w2 (whileN f b m ρ2 s2) E, ⟨μ ρ s, w, ρ, s, e, q, p⟩, ?_⟩
    rintro m σ H' ⟨w2, ρ2, s2, e2, r2, p2⟩
    cases m with
    | zero => exact p2.elim
    | succ n =>
      refine rdT_mono (postS_bindT e2 r2 p2 (fun x s1 => by
        cases h : truth x s1 with
        | some b => exact .inl ⟨_, rfl⟩
        | none => exact .inr rfl)) fun t H1 ⟨w3, x, s3, et, l3, e3, r3, p3⟩ => ?_
      rw [et] at p3
      cases t with
      | true =>
        rw [if_pos rfl]
        refine ⟨fun σ' H'' => ∃ w4 ρ4 s4, RE T w4 ρ4 σ' ∧ RS T w4 s4 H'' ∧ PostS T W w4 (whileN f b n ρ4 s4) E, fun σ' H'' h => ⟨n, Nat.lt_succ_self _, h⟩, w3, ρ2, s3, e3, r3, ?_⟩
        dsimp only at p3
        revert p3
        cases b ρ2 s3 with
        | nx r5 s5 => exact fun p4 w5 st5 H5 l5 e5 r5 => ⟨w5, _, _, e5, r5, PostS.mono l5 p4⟩
        | ct r5 s5 => exact fun p4 w5 st5 H5 l5 e5 r5 => ⟨w5, _, _, e5, r5, PostS.mono l5 p4⟩
        | bk r5 s5 => exact fun p4 => p4
        | rt v5 s5 => exact fun p4 => p4
        | exc x5 r5 s5 => exact fun p4 => p4
        | stuck => exact fun p4 => p4
      | false =>
        rw [if_neg Bool.false_ne_true]
        exact p3 w3 σ H1 (.refl _) e3 r3
end
end FL

set_option Elab.async false
set_option linter.all false
set_option maxRecDepth 100000
set_option maxHeartbeats 4000000
namespace FL
open PySem PySem.Spec PyProof.Rows L2
section
variable {T : Tx} {X : Cx} {W : WX}
/-! ### list comprehensions -/
def wipeF (ρ : Env') : List Nat → Env'
  | [] => ρ
  | v :: vs => (wipeF ρ vs).set v none
theorem RE.wipe {w : Wd} {ρ : Env'} {st : L2.St} (e : RE T w ρ st) : ∀ vs : List Nat, RE T w (wipeF ρ vs) (L2.wipe st vs)
  | [] => e
  | v :: vs => by
    have k := RE.wipe e vs
    show RE T w ((wipeF ρ vs).set v none) ((L2.wipe st vs).set v none)
    refine ⟨by simp [k.len], fun j y q => ?_⟩
    by_cases hj : v = j
    · subst hj
      have il : v < (wipeF ρ vs).length := by
        have := (List.getElem?_eq_some_iff.mp q).1
        simpa using this
      rw [List.getElem?_set_self il] at q
      cases q
    · rw [List.getElem?_set_ne hj] at q ⊢
      exact k.at_ j y q
theorem wipe_get {st : L2.St} {vs : List Nat} {j : Nat} (h : j ∉ vs) : (L2.wipe st vs)[j]? = st[j]? := by
  induction vs with
  | nil => rfl
  | cons v vs ih =>
    rw [List.mem_cons, not_or] at h
    show ((L2.wipe st vs).set v none)[j]? = _
    rw [List.getElem?_set_ne (fun z => h.1 z.symm)]
    exact ih h.2
theorem wipe_len {st : L2.St} {vs : List Nat} : (L2.wipe st vs).length = st.length := by
  induction vs with
  | nil => rfl
  | cons v vs ih =>
    show ((L2.wipe st vs).set v none).length = _
    rw [List.length_set, ih]
theorem wipe_at {st : L2.St} {vs : List Nat} {j : Nat} (h : j ∈ vs) (hj : j < st.length) : (L2.wipe st vs)[j]? = some none := by
  induction vs with
  | nil => cases h
  | cons v vs ih =>
    show ((L2.wipe st vs).set v none)[j]? = _
    by_cases hv : v = j
    · subst hv
      rw [List.getElem?_set_self (by rw [wipe_len]; exact hj)]
    · rw [List.getElem?_set_ne hv]
      rcases List.mem_cons.mp h with e | e
      · exact absurd e.symm hv
      · exact ih e
theorem wipe_eq {σ σ2 : L2.St} {vs ix : List Nat} (hl : σ2.length = σ.length) (h : ∀ j, j ∉ ix → σ2[j]? = (L2.wipe σ vs)[j]?) (hix : ∀ j ∈ ix, j ∈ vs) : L2.wipe σ2 vs = L2.wipe σ vs := by
  apply List.ext_getElem?
  intro j
  by_cases hj : j ∈ vs
  · by_cases q : j < σ.length
    · rw [wipe_at hj q, wipe_at hj (by rw [hl]; exact q)]
    · rw [List.getElem?_eq_none (by rw [wipe_len, hl]; omega), List.getElem?_eq_none (by rw [wipe_len]; omega)]
  · rw [wipe_get hj, h j (fun z => hj (hix j z)), wipe_get hj]
/-- the list that is being made is held -/
def hz (w : Wd) (D : Addr) (acc : List V) : Wd := { w with Z := upd w.Z D (.lst acc) }
def del (H : Hp) (D : Addr) : Hp := fun b => if b = D then none else H b
theorem upd_del {H : Hp} {D : Addr} {o : HO} : upd (del H D) D o = upd H D o := by
  funext b
  by_cases hb : b = D
  · subst hb
    rw [upd_same, upd_same]
  · rw [upd_ne hb, upd_ne hb]
    exact if_neg hb
theorem rs_hold {w : Wd} {s : Sto} {H : Hp} {D : Addr} {acc : List V} (r : RS T w s H) (h : H D = none) : RS T (hz w D acc) s (upd H D (.lst acc)) := by
  have gd : w.G D = none := r.g.free h
  refine ⟨fun a o e => ?_, fun a o e => ?_, fun a o e => ?_, r.len, fun i o a e1 e2 e3 => ?_, r.inj⟩
  · rw [upd_ne (ne_of_none (r.g _ _ e) h)]
    exact r.g _ _ e
  · by_cases ha : a = D
    · subst ha
      have e' : upd w.Z a (.lst acc) a = some o := e
      rw [upd_same] at e' ⊢
      exact e'
    · have e' : upd w.Z D (.lst acc) a = some o := e
      rw [upd_ne ha] at e' ⊢
      exact r.z _ _ e'
  · by_cases ha : a = D
    · subst ha
      exact gd
    · have e' : upd w.Z D (.lst acc) a = some o := e
      rw [upd_ne ha] at e'
      exact r.gz _ _ e'
  · obtain ⟨ho, h1, h2, h3, h4⟩ := r.live i o a e1 e2 e3
    have ha : a ≠ D := ne_of_none h1 h
    exact ⟨ho, by rw [upd_ne ha]; exact h1, h2, h3, by show upd w.Z D (.lst acc) a = none; rw [upd_ne ha]; exact h4⟩
theorem rs_unhold {w : Wd} {s : Sto} {H : Hp} {D : Addr} {acc : List V} (r : RS T (hz w D acc) s H) (h : w.Z D = none) : RS T w s (del H D) := by
  have zd : (hz w D acc).Z D = some (.lst acc) := upd_same
  have gd : w.G D = none := r.gz _ _ zd
  refine ⟨fun a o e => ?_, fun a o e => ?_, fun a o e => ?_, r.len, fun i o a e1 e2 e3 => ?_, r.inj⟩
  · have ha : a ≠ D := ne_of_none e gd
    show (if a = D then none else H a) = _
    rw [if_neg ha]
    exact r.g _ _ e
  · have ha : a ≠ D := ne_of_none e h
    show (if a = D then none else H a) = _
    rw [if_neg ha]
    exact r.z _ _ (by show upd w.Z D (.lst acc) a = _; rw [upd_ne ha]; exact e)
  · have ha : a ≠ D := ne_of_none e h
    exact r.gz a o (by show upd w.Z D (.lst acc) a = _; rw [upd_ne ha]; exact e)
  · obtain ⟨ho, h1, h2, h3, h4⟩ := r.live i o a e1 e2 e3
    have ha : a ≠ D := fun z => by
      subst z
      rw [zd] at h4
      cases h4
    refine ⟨ho, ?_, h2, h3, ?_⟩
    · show (if a = D then none else H a) = _
      rw [if_neg ha]
      exact h1
    · have h4' : upd w.Z D (.lst acc) a = none := h4
      rw [upd_ne ha] at h4'
      exact h4'
theorem hz_at {w : Wd} {s : Sto} {H : Hp} {D : Addr} {acc : List V} (r : RS T (hz w D acc) s H) : H D = some (.lst acc) := r.z _ _ upd_same
theorem upd_del_at {H : Hp} {D : Addr} {o : HO} (h : H D = some o) : upd (del H D) D o = H := by
  rw [upd_del]
  funext b
  by_cases hb : b = D
  · subst hb
    rw [upd_same, h]
  · rw [upd_ne hb]
theorem del_at {H : Hp} {D : Addr} : del H D D = none := if_pos rfl
theorem RX.hz {w : Wd} {D : Addr} {acc : List V} {x : Xv} {v : V} (h : RX T w x v) : RX T (hz w D acc) x v := by
  cases x with
  | d x => exact h
  | ref i => exact h
theorem RE.hz {w : Wd} {D : Addr} {acc : List V} {ρ : Env'} {st : L2.St} (h : RE T w ρ st) : RE T (FL.hz w D acc) ρ st := ⟨h.len, fun i v e => by
  obtain ⟨u, k1, k2⟩ := h.at_ i v e
  exact ⟨u, k1, RX.hz k2⟩⟩
def compN (asg : Xv → Env' → Option Env') (t f : FE) (ρ : Env') : List D → Sto → Option (List D × Sto)
  | [], s => some ([], s)
  | x :: xs, s => match asg (.d x) ρ with
    | none => none
    | some r => match t r s with
      | .ok b s1 => match truth b s1 with
        | some true => match f r s1 with
          | .ok (.d y) s2 => match compN asg t f ρ xs s2 with
            | some (ys, s3) => some (y :: ys, s3)
            | none => none
          | _ => none
        | some false => compN asg t f ρ xs s1
        | none => none
      | _ => none
def finL (m : Bool) (acc : List D) : Option (List D × Sto) → Res
  | some (ys, s) => mkL m (acc ++ ys) s
  | none => .stuck
def lcF (m : Bool) (own : List Nat) (asg : Xv → Env' → Option Env') (f t g : FE) : FE := fun ρ s => (f ρ s).bind fun x s1 => match x with
  | .d (.lst xs) => if xs.length ≤ 1000000 then finL m [] (compN asg t g (wipeF ρ own) xs s1) else .stuck
  | _ => .stuck
abbrev W0 : WX := fun _ _ _ _ => False
abbrev PFTs (T : Tx) (X : Cx) (W : WX) (es : List Expr) (f : FE) : Prop := PTs X es (rdT T W f)
def yesF : FE := litF (.bl true)
theorem pts_yes : PFTs T X W [] yesF := ⟨fun pins s σ H Q I h => pts_nil.run pins s σ H Q I (by
  obtain ⟨w, ρ, s0, e, r, b, eb, k⟩ := h
  cases eb
  exact k w H (.refl _) r)⟩
theorem pts_1 {c : Expr} {f : FE} (h : PFT T X W c f) : PFTs T X W [c] f := pts_one h
theorem lc_ok {st : L2.St} {ρ : Env'} {f : FE} {asg : Xv → Env' → Option Env'} {t g : FE} {H : Hp} {Q : VK} {own : List Nat} {ix : List Nat} {m : Bool} (hix : ∀ j ∈ ix, j ∈ own)
    (w : Wd) (s : Sto) (e : RE T w ρ st) (q : RS T w s H) (p : PostE T W st w (lcF m own asg f t g ρ s) Q) : tLc (rdI T W f) (rdG T asg ix) (rdT T W0 t) (rdE T W0 g) own st H Q := by
  refine ⟨w, ρ, s, e, q, ?_⟩
  unfold lcF at p
  revert p
  cases f ρ s with
  | exc x s1 => exact fun p => p
  | stuck => exact fun p => p
  | ok v s1 =>
    intro p
    unfold Res.bind at p
    dsimp only at p
    split at p
    · rename_i xs
      split at p
      · rename_i hxl
        intro w1 J H1 l k r1 D hD
        have zD : w1.Z D = none := r1.z.free hD
        have e1 : RE T w1 ρ st := e.mono l
        refine ⟨fun i m1 H' => ∃ w2 s2 accD acc, Le w1 w2 ∧ RS T (hz w2 D acc) s2 H' ∧ Rs T w2.G accD acc ∧ accD.length ≤ i ∧ i ≤ xs.length ∧ m1 = xs.length - i ∧ PostE T W st w2 (finL m accD (compN asg t g (wipeF ρ own) (xs.drop i) s2)) Q,
          ⟨xs.length, w1, s1, [], [], .refl _, rs_hold r1 hD, by unfold Rs; rfl, Nat.zero_le _, Nat.zero_le _, rfl, PostE.mono l p⟩, ?_⟩
        rintro i m1 H' ⟨w2, s2, accD, acc, l2, r2, ra, hal, il, rfl, p2⟩
        have zD2 : w2.Z D = none := by rw [l2.z]; exact zD
        rcases Nat.lt_or_ge i xs.length with hi | hi
        · refine .inr ?_
          have hx : xs[i]? = some xs[i] := List.getElem?_eq_getElem hi
          obtain ⟨hgo, hy⟩ := k.go i _ (hz w2 D acc) s2 H' hx l2.g r2
          refine ⟨hgo, fun H'' => ∃ w3 s3 accD3 acc3, Le w1 w3 ∧ RS T (hz w3 D acc3) s3 H'' ∧ Rs T w3.G accD3 acc3 ∧ accD3.length ≤ i + 1 ∧ PostE T W st w3 (finL m accD3 (compN asg t g (wipeF ρ own) (xs.drop (i + 1)) s3)) Q, ?_, ?_⟩
          · rintro H'' ⟨w3, s3, accD3, acc3, l3, r3, ra3, hal3, p3⟩
            exact ⟨xs.length - (i + 1), by omega, w3, s3, accD3, acc3, l3, r3, ra3, hal3, hi, rfl, p3⟩
          · intro v H'' hv
            obtain ⟨w3, l3, x3, r3⟩ := hy v H'' hv
            rw [List.drop_eq_getElem_cons hi] at p2
            unfold compN at p2
            split at p2
            · exact p2.elim
            · rename_i r hasg
              refine ⟨w3, _, s2, _, r, x3, ((RE.hz (e1.mono l2)).mono l3).wipe own, r3, hasg, fun w4 st4 H4 l4 e4 r4 hl4 hf4 => ⟨wipe_eq (by rw [hl4, wipe_len]) hf4 hix, w4, r, s2, e4, r4, ?_⟩⟩
              split at p2
              · rename_i b s5 ht
                rw [ht]
                split at p2
                · rename_i htr
                  refine ⟨true, htr, fun w5 H5 l5 r5 => ?_⟩
                  dsimp only
                  rw [if_pos rfl]
                  refine ⟨w5, r, s5, e4.mono l5, r5, ?_⟩
                  split at p2
                  · rename_i y s6 hg
                    rw [hg]
                    intro w6 u H6 l6 x6 r6
                    have l26 : Le (hz w2 D acc) w6 := (l3.trans l4).trans (l5.trans l6)
                    have l7 : Le w2 { w6 with Z := w2.Z } := ⟨l26.g, rfl, l26.io⟩
                    have ew : hz { w6 with Z := w2.Z } D acc = w6 := by
                      have e6 : w6.Z = upd w2.Z D (.lst acc) := l26.z
                      unfold hz
                      cases w6
                      dsimp only at e6 ⊢
                      rw [e6]
                    have r7 : RS T (hz { w6 with Z := w2.Z } D acc) s6 H6 := by rw [ew]; exact r6
                    refine ⟨acc, hz_at r7, ?_, { w6 with Z := w2.Z }, s6, accD ++ [y], acc ++ [u], l2.trans l7, ?_, ?_, ?_, ?_⟩
                    · rw [← ra.length]
                      have : sizeLine = 16777216 := sizeLine_eq
                      omega
                    · have k7 := rs_hold (acc := acc ++ [u]) (rs_unhold r7 zD2) del_at
                      rw [upd_del] at k7
                      exact k7
                    · exact (Rs.mono l7.g ra).append (.one x6)
                    · rw [List.length_append, List.length_singleton]
                      omega
                    · refine PostE.mono l7 ?_
                      revert p2
                      cases compN asg t g (wipeF ρ own) (xs.drop (i + 1)) s6 with
                      | none => exact fun p => p
                      | some z =>
                        obtain ⟨ys, s8⟩ := z
                        intro p2
                        show PostE T W st w2 (mkL m ((accD ++ [y]) ++ ys) s8) Q
                        rw [List.append_assoc]
                        exact p2
                  · exact p2.elim
                · rename_i htr
                  refine ⟨false, htr, fun w5 H5 l5 r5 => ?_⟩
                  dsimp only
                  rw [if_neg Bool.false_ne_true]
                  have l26 : Le (hz w2 D acc) w5 := (l3.trans l4).trans l5
                  have l7 : Le w2 { w5 with Z := w2.Z } := ⟨l26.g, rfl, l26.io⟩
                  have ew : hz { w5 with Z := w2.Z } D acc = w5 := by
                    have e6 : w5.Z = upd w2.Z D (.lst acc) := l26.z
                    unfold hz
                    cases w5
                    dsimp only at e6 ⊢
                    rw [e6]
                  exact ⟨{ w5 with Z := w2.Z }, s5, accD, acc, l2.trans l7, by rw [ew]; exact r5, Rs.mono l7.g ra, by omega, PostE.mono l7 p2⟩
                · exact p2.elim
              · exact p2.elim
        · have hi' : i = xs.length := by omega
          subst hi'
          rw [List.drop_length] at p2
          refine .inl ⟨k.stop (hz w2 D acc) s2 H' l2.g r2, ?_⟩
          have p3 : PostE T W st w2 (mkL m (accD ++ []) s2) Q := p2
          rw [List.append_nil] at p3
          have k3 := mkL_ok p3 (rs_unhold r2 zD2) ra D del_at
          rw [upd_del_at (hz_at r2)] at k3
          exact k3
      · exact p.elim
    · exact p.elim
theorem pf_lc {elt tg iter : Expr} {ifs : List Expr} {scope : Scope} {own : List (Str × Nat)} {pos : Pos} {f t g : FE} {asg : Xv → Env' → Option Env'} {ix : List Nat} (m : Bool) (hc : X.calm = true) (hN : X.N.Nodup) (hi : PFI T X W tg iter f) (ok : BlkOk X.N X.env.scope scope own)
    (hg : ∀ (s : Shared) (H : Hp) (C : Addr) (cl : List (Str × Addr)) (fp : List Addr), PFG T (X.blk s H scope (compEnvC scope cl C X.env) fp) tg asg ix)
    (ht : ∀ (s : Shared) (H : Hp) (C : Addr) (cl : List (Str × Addr)) (fp : List Addr), PFTs T (X.blk s H scope (compEnvC scope cl C X.env) fp) W0 ifs t)
    (he : ∀ (s : Shared) (H : Hp) (C : Addr) (cl : List (Str × Addr)) (fp : List Addr), PF T (X.blk s H scope (compEnvC scope cl C X.env) fp) W0 elt g)
    (hix : ∀ j ∈ ix, j ∈ own.map (·.2) := by decide) (hf : ∀ x, foldedSetIterable iter X.env x = pure x := by exact fun _ => rfl) :
    PF T X W (.ListComp elt [⟨tg, iter, ifs, 0⟩] scope pos) (lcF m (own.map (·.2)) asg f t g) :=
  PE.imp (pe_lc hc hN hi ok hg ht he hf) fun st H Q ⟨w, ρ, s, e, q, p⟩ => lc_ok hix w s e q p
theorem pfs_setLc {i : Nat} {y : Str} {py : Pos} {elt tg iter : Expr} {ifs : List Expr} {scope : Scope} {own : List (Str × Nat)} {pos spos : Pos} {f t g : FE} {asg : Xv → Env' → Option Env'} {ix : List Nat} (m : Bool) (hc : X.calm = true) (hN : X.N.Nodup) (hi : PFI T X W tg iter f) (ok : BlkOk X.N X.env.scope scope own)
    (hg : ∀ (s : Shared) (H : Hp) (C : Addr) (cl : List (Str × Addr)) (fp : List Addr), PFG T (X.blk s H scope (compEnvC scope cl C X.env) fp) tg asg ix)
    (ht : ∀ (s : Shared) (H : Hp) (C : Addr) (cl : List (Str × Addr)) (fp : List Addr), PFTs T (X.blk s H scope (compEnvC scope cl C X.env) fp) W0 ifs t)
    (he : ∀ (s : Shared) (H : Hp) (C : Addr) (cl : List (Str × Addr)) (fp : List Addr), PF T (X.blk s H scope (compEnvC scope cl C X.env) fp) W0 elt g)
    (hsw : swapsWith (.ListComp elt [⟨tg, iter, ifs, 0⟩] scope pos) (some (.Name y py)) spos.line X.env = pure true)
    (hy : X.N[i]? = some y := by rfl) (hyl : X.env.scope.names.lookup y = some .local := by rfl)
    (hix : ∀ j ∈ ix, j ∈ own.map (·.2) := by decide) (hf : ∀ x, foldedSetIterable iter X.env x = pure x := by exact fun _ => rfl) :
    PFS T X W (.Assign [.Name y py] (.ListComp elt [⟨tg, iter, ifs, 0⟩] scope pos) spos) (setS i (lcF m (own.map (·.2)) asg f t g)) :=
  PS.imp (ps_setLc hc hN hy hyl hsw hi ok hg ht he hf) fun E st H ⟨w, ρ, s, e, q, p⟩ => by
    refine lc_ok (m := m) hix w s e q ?_
    unfold setS at p
    revert p
    cases lcF m (own.map (·.2)) asg f t g ρ s with
    | exc x s1 => exact fun p w1 c d H1 l x y => p w1 c d st H1 l x (e.mono l) y
    | stuck => exact fun p => p
    | ok v s1 => exact fun p w1 u H1 l x y => p w1 _ H1 l ((e.mono l).set i x) y
end
end FL

set_option Elab.async false
set_option linter.all false
set_option maxRecDepth 100000
set_option maxHeartbeats 4000000
namespace FL
open PySem PySem.Spec PyProof.Rows L2
/-! ### zip(.., strict=True) -/
def ItK (k : Bool) (h : Heap) (a l : Addr) (i : Nat) : Prop := match k with | true => h.IsListIter a l i | false => h.IsTupleIter a l i
def SqK (k : Bool) (h : Heap) (a : Addr) (xs : Array Value) : Prop := match k with | true => h.IsList a xs | false => h.IsTuple a xs
@[reducible] def IsZs (h : Heap) (z TI TO : Addr) (f0 : Value) : Prop := h.get? z = some ⟨.type "zip", none, .fields #[f0, .bool false, .bool true, .ref TI, .ref TO], #[]⟩
theorem ItK.ext {k : Bool} {h h' : Heap} {a b l : Addr} {i : Nat} (e : ItK k h a l i) (q : Heap.ExtBut b h h') (n : a ≠ b) : ItK k h' a l i := by
  cases k with
  | true => exact Heap.IsListIter.extBut e q n
  | false => exact Heap.IsTupleIter.extBut e q n
theorem SqK.ext {k : Bool} {h h' : Heap} {a b : Addr} {xs : Array Value} (e : SqK k h a xs) (q : Heap.ExtBut b h h') (n : a ≠ b) : SqK k h' a xs := by
  cases k with
  | true => exact Heap.IsList.extBut e q n
  | false => exact Heap.IsTuple.extBut e q n
section
variable {prog : Program} {w : World} {A : Around} {E : Value → Shared → Prop} {s : Shared}
theorem nx_item {k : Bool} {it l : Addr} {i : Nat} {xs : Array Value} {x : Value} {Q : Option Value → Shared → Prop} (h1 : ItK k s.heap it l i) (h2 : SqK k s.heap l xs) (hx : xs[i]? = some x)
    (hq : ∀ h' : Heap, ItK k h' it l (i + 1) → Heap.SameBut it s.heap h' → Q (some x) { heap := h', gens := s.gens, drawn := s.drawn, toks := s.toks, os := s.os }) : wpAny (model prog w) A (Builtin.SmallTypes.nextOrEnd (.ref it)) Q E s := by
  unfold Builtin.SmallTypes.nextOrEnd
  refine wpAny_bind (wpAny_attempt ?_)
  cases k with
  | true => exact wpAny_nextOf_list_item h1 h2 hx fun h' a b => wpAny_pure (hq h' a b)
  | false => exact RZ.nextOf_tuple_item h1 h2 hx fun h' a b => wpAny_pure (hq h' a b)
theorem nx_end {k : Bool} {it l : Addr} {i : Nat} {xs : Array Value} {Q : Option Value → Shared → Prop} (hh : A.handled = none) (h1 : ItK k s.heap it l i) (h2 : SqK k s.heap l xs) (hx : xs[i]? = none)
    (hq : ∀ h' : Heap, Heap.ExtBut it s.heap h' → Q none { heap := h', gens := s.gens, drawn := s.drawn, toks := s.toks, os := s.os }) : wpAny (model prog w) A (Builtin.SmallTypes.nextOrEnd (.ref it)) Q E s := by
  unfold Builtin.SmallTypes.nextOrEnd
  refine wpAny_bind (wpAny_attempt ?_)
  cases k with
  | true => exact wpAny_nextOf_list_end hh h1 h2 hx fun h' e a ⟨o, ho, hc⟩ => wpAny_bind (wpAny_isInstance ⟨o, ho, hc⟩ isSubtype_stop (wpAny_pure (hq h' a)))
  | false => exact RZ.nextOf_tuple_end hh h1 h2 hx fun h' e a ⟨o, ho, hc⟩ => wpAny_bind (wpAny_isInstance ⟨o, ho, hc⟩ isSubtype_stop (wpAny_pure (hq h' a)))
theorem stop_it {α : Type} {Q : α → Shared → Prop} (hh : A.handled = none)
    (hE : ∀ (h' : Heap) (e : Addr), (∀ (c : Addr) (o : Obj), s.heap.get? c = some o → h'.get? c = some o) → (∃ o, h'.get? e = some o ∧ o.cls = Value.type "StopIteration") → E (.ref e) { heap := h', gens := s.gens, drawn := s.drawn, toks := s.toks, os := s.os }) : wpAny (model prog w) A (Builtin.SmallTypes.stopIteration : Sem α) Q E s := by
  unfold Builtin.SmallTypes.stopIteration
  refine wpAny_bind ?_
  unfold newExc
  refine wpAny_bind (wpAny_newObj_type ?_)
  refine wpAny_bind (wpAny_of_eq (Eq.refl (firstArgMember (Value.type "StopIteration") [])) (wpAny_newObj_type ?_))
  unfold raiseNew
  refine wpAny_bind (wpAny_handled ?_)
  rw [hh]
  refine wpAny_throw (hE _ _ (fun c o q => Heap.get?_push_of_some _ (Heap.get?_push_of_some _ q)) ⟨_, Heap.get?_push_size _ rfl, rfl⟩)
theorem zs_next_item {ka kb : Bool} {z TI TO i1 i2 l1 l2 : Addr} {k1 k2 : Nat} {xs ys : Array Value} {x y a b : Value} {Q : Value → Shared → Prop} (D : ZipApart z TI TO i1 i2 l1 l2) (hz : IsZs s.heap z TI TO .none) (hTI : IsPair s.heap TI (.ref i1) (.ref i2)) (hTO : IsPair s.heap TO a b)
    (h1 : ItK ka s.heap i1 l1 k1) (h2 : ItK kb s.heap i2 l2 k2) (hl1 : SqK ka s.heap l1 xs) (hl2 : SqK kb s.heap l2 ys) (hx : xs[k1]? = some x) (hy : ys[k2]? = some y)
    (hQ : ∀ h' : Heap, IsZs h' z TI TO (rawInt (s.heap.objs.size : Int)) → IsPair h' TO x y → ItK ka h' i1 l1 (k1 + 1) → ItK kb h' i2 l2 (k2 + 1) → IsPair h' s.heap.objs.size x y → h'.objs.size = s.heap.objs.size + 1 →
      (∀ (c : Addr) (o : Obj), c ≠ z → c ≠ TO → c ≠ i1 → c ≠ i2 → s.heap.get? c = some o → h'.get? c = some o) → Q (.ref s.heap.objs.size) { heap := h', gens := s.gens, drawn := s.drawn, toks := s.toks, os := s.os }) :
    wpAny (model prog w) A (Builtin.«zip.__next__» ⟨[.ref z], []⟩) (fun fin s' => ∃ v, fin = Fin.done (.ret v) ∧ Q v s') E s := by
  unfold Builtin.«zip.__next__»
  refine wpAny_bind (show wpAny _ _ (pure (Value.ref z, ([] : List Value))) _ _ _ from wpAny_pure ?_)
  refine wpAny_bind (wpAny_field (x := .bool true) hz rfl rfl ?_)
  refine wpAny_bind (wpAny_field (x := .ref TI) hz rfl rfl ?_)
  refine wpAny_bind (wpAny_seqItems hTI rfl ?_)
  dsimp only
  rw [if_neg (show ¬ (#[Value.ref i1, Value.ref i2].isEmpty = true) from fun q => nomatch q)]
  refine wpAny_bind ?_
  unfold Builtin.SmallTypes.ownedTupleIsFree
  refine wpAny_bind (wpAny_field (x := .none) hz rfl rfl (wpAny_pure ?_))
  rw [if_pos rfl]
  refine wpAny_bind (wpAny_rule ?_)
  refine wpAny_bind (wpAny_field (x := .ref TO) hz rfl rfl ?_)
  dsimp only
  refine wpAny_bind (wpAny_setField_rec hz (show 0 < 5 by decide) fun h₁ hz₁ hs₁ => ?_)
  have hz₁' : h₁.get? z = some ⟨.type "zip", none, .fields #[.ellipsis, .bool false, .bool true, .ref TI, .ref TO], #[]⟩ := hz₁
  refine wpAny_bind ?_
  show wpAny _ _ (forIn [(Value.ref i1, 0), (Value.ref i2, 1)] _ _) _ _ _
  simp only [List.forIn_cons, List.forIn_nil]
  have g1 := h1.ext hs₁.extBut D.i1z
  refine wpAny_bind (wpAny_bind (wpAny_onRaise (show wpAny _ _ (Builtin.SmallTypes.nextOrEnd (.ref i1)) _ _ _ from nx_item (s := { heap := h₁, gens := s.gens, drawn := s.drawn, toks := s.toks, os := s.os }) g1 (hl1.ext hs₁.extBut D.l1z) hx fun h₂ h1₂ hs₂ => ?_)))
  have hTO₂ : IsPair h₂ TO a b := hs₂.extBut TO _ D.TOi1 (hs₁.extBut TO _ D.TOz hTO)
  dsimp only
  refine wpAny_bind (wpAny_seqItems hTO₂ rfl ?_)
  refine wpAny_bind (wpAny_updateSeq_pair hTO₂ fun h₃ hTO₃ hs₃ => ?_)
  refine wpAny_bind (wpAny_letGo (wpAny_pure ?_))
  have hTO₃' : IsPair h₃ TO x b := hTO₃
  have g2 : ItK kb h₃ i2 l2 k2 := ((h2.ext hs₁.extBut D.i2z).ext hs₂.extBut D.i12.symm).ext hs₃.extBut D.TOi2.symm
  have q2 : SqK kb h₃ l2 ys := ((hl2.ext hs₁.extBut D.l2z).ext hs₂.extBut D.l2i1).ext hs₃.extBut D.l2TO
  refine wpAny_bind (wpAny_bind (wpAny_onRaise (show wpAny _ _ (Builtin.SmallTypes.nextOrEnd (.ref i2)) _ _ _ from nx_item (s := { heap := h₃, gens := s.gens, drawn := s.drawn, toks := s.toks, os := s.os }) g2 q2 hy fun h₄ h2₄ hs₄ => ?_)))
  have hTO₄ : IsPair h₄ TO x b := hs₄.extBut TO _ D.TOi2 hTO₃'
  dsimp only
  refine wpAny_bind (wpAny_seqItems hTO₄ rfl ?_)
  refine wpAny_bind (wpAny_updateSeq_pair hTO₄ fun h₅ hTO₅ hs₅ => ?_)
  refine wpAny_bind (wpAny_letGo (wpAny_pure ?_))
  have hTO₅' : IsPair h₅ TO x y := hTO₅
  refine wpAny_pure ?_
  dsimp only
  refine wpAny_bind (wpAny_seqItems hTO₅' rfl ?_)
  dsimp only
  refine wpAny_bind (wpAny_newTuple ?_ (show ([x, y] : List Value).length ≤ sizeLine by rw [sizeLine_eq]; exact (by decide : 2 ≤ 16777216)))
  have e5 : h₅.objs.size = s.heap.objs.size := by rw [hs₅.1, hs₄.1, hs₃.1, hs₂.1]; exact hs₁.1
  have hz₅ : h₅.get? z = some ⟨.type "zip", none, .fields #[.ellipsis, .bool false, .bool true, .ref TI, .ref TO], #[]⟩ := hs₅.extBut z _ D.TOz.symm (hs₄.extBut z _ D.i2z.symm (hs₃.extBut z _ D.TOz.symm (hs₂.extBut z _ D.i1z.symm hz₁')))
  have lt5 : ∀ {c : Addr} {o : Obj}, h₅.get? c = some o → c ≠ h₅.objs.size := fun q => Nat.ne_of_lt (Heap.lt_size q)
  unfold Builtin.SmallTypes.ownedTupleHandOut
  dsimp only
  have hz₆ := Heap.get?_push_of_some (h := h₅) (⟨.type "tuple", none, .seq [x, y].toArray, #[]⟩ : Obj) hz₅
  refine wpAny_bind (wpAny_bind (wpAny_setField_rec hz₆ (show 0 < 5 by decide) fun h₇ hz₇ hs₇ => ?_))
  refine wpAny_setField_rec hz₇ (show 1 < 5 by decide) fun h₈ hz₈ hs₈ => ?_
  have hz₈' : IsZs h₈ z TI TO (rawInt (h₅.objs.size : Int)) := hz₈
  have up : ∀ {c : Addr} {o : Obj}, c ≠ z → h₅.get? c = some o → h₈.get? c = some o := fun n q => hs₈.extBut _ _ n (hs₇.extBut _ _ n (Heap.get?_push_of_some _ q))
  have nz : h₅.objs.size ≠ z := fun q => lt5 hz₅ q.symm
  have h1₅ : ItK ka h₅ i1 l1 (k1 + 1) := ((h1₂.ext hs₃.extBut D.TOi1.symm).ext hs₄.extBut D.i12).ext hs₅.extBut D.TOi1.symm
  have h2₅ : ItK kb h₅ i2 l2 (k2 + 1) := h2₄.ext hs₅.extBut D.TOi2.symm
  have ex8 : Heap.ExtBut z h₅ h₈ := fun c o n q => up n q
  refine wpAny_pure ⟨_, rfl, ?_⟩
  have key := hQ h₈ (by rw [← e5]; exact hz₈') (up D.TOz hTO₅') (h1₅.ext ex8 D.i1z) (h2₅.ext ex8 D.i2z) (by
      rw [← e5]
      exact hs₈.extBut _ _ nz (hs₇.extBut _ _ nz (Heap.get?_push_size h₅ rfl))) (by
      rw [hs₈.1, hs₇.1, Heap.size_push, e5]) (fun c o n1 n2 n3 n4 q => up n1 (hs₅.extBut _ _ n2 (hs₄.extBut _ _ n4 (hs₃.extBut _ _ n2 (hs₂.extBut _ _ n3 (hs₁.extBut _ _ n1 q))))))
  rw [← e5] at key
  exact key
theorem zs_next_end {ka kb : Bool} {z TI TO i1 i2 l1 l2 : Addr} {k1 k2 : Nat} {xs ys : Array Value} {Q : PySem.Fin → Shared → Prop} (hh : A.handled = none) (D : ZipApart z TI TO i1 i2 l1 l2) (hz : IsZs s.heap z TI TO .none) (hTI : IsPair s.heap TI (.ref i1) (.ref i2))
    (h1 : ItK ka s.heap i1 l1 k1) (h2 : ItK kb s.heap i2 l2 k2) (hl1 : SqK ka s.heap l1 xs) (hl2 : SqK kb s.heap l2 ys) (hx : xs[k1]? = none) (hy : ys[k2]? = none)
    (hE : ∀ (h' : Heap) (e : Addr), (∀ (c : Addr) (o : Obj), c ≠ z → c ≠ TO → c ≠ i1 → c ≠ i2 → s.heap.get? c = some o → h'.get? c = some o) → (∃ o, h'.get? e = some o ∧ o.cls = Value.type "StopIteration") → E (.ref e) { heap := h', gens := s.gens, drawn := s.drawn, toks := s.toks, os := s.os }) :
    wpAny (model prog w) A (Builtin.«zip.__next__» ⟨[.ref z], []⟩) Q E s := by
  unfold Builtin.«zip.__next__»
  refine wpAny_bind (show wpAny _ _ (pure (Value.ref z, ([] : List Value))) _ _ _ from wpAny_pure ?_)
  refine wpAny_bind (wpAny_field (x := .bool true) hz rfl rfl ?_)
  refine wpAny_bind (wpAny_field (x := .ref TI) hz rfl rfl ?_)
  refine wpAny_bind (wpAny_seqItems hTI rfl ?_)
  dsimp only
  rw [if_neg (show ¬ (#[Value.ref i1, Value.ref i2].isEmpty = true) from fun q => nomatch q)]
  refine wpAny_bind ?_
  unfold Builtin.SmallTypes.ownedTupleIsFree
  refine wpAny_bind (wpAny_field (x := .none) hz rfl rfl (wpAny_pure ?_))
  rw [if_pos rfl]
  refine wpAny_bind (wpAny_rule ?_)
  refine wpAny_bind (wpAny_field (x := .ref TO) hz rfl rfl ?_)
  dsimp only
  refine wpAny_bind (wpAny_setField_rec hz (show 0 < 5 by decide) fun h₁ hz₁ hs₁ => ?_)
  have hz₁' : h₁.get? z = some ⟨.type "zip", none, .fields #[.ellipsis, .bool false, .bool true, .ref TI, .ref TO], #[]⟩ := hz₁
  refine wpAny_bind ?_
  show wpAny _ _ (forIn [(Value.ref i1, 0), (Value.ref i2, 1)] _ _) _ _ _
  simp only [List.forIn_cons, List.forIn_nil]
  have g1 := h1.ext hs₁.extBut D.i1z
  refine wpAny_bind (wpAny_bind (wpAny_onRaise (show wpAny _ _ (Builtin.SmallTypes.nextOrEnd (.ref i1)) _ _ _ from nx_end (s := { heap := h₁, gens := s.gens, drawn := s.drawn, toks := s.toks, os := s.os }) hh g1 (hl1.ext hs₁.extBut D.l1z) hx fun h₂ hs₂ => ?_)))
  dsimp only
  have hz₂ := hs₂ z _ D.i1z.symm hz₁'
  refine wpAny_bind (wpAny_setField_rec hz₂ (show 0 < 5 by decide) fun h₃ hz₃ hs₃ => ?_)
  have g2 : ItK kb h₃ i2 l2 k2 := ((h2.ext hs₁.extBut D.i2z).ext hs₂ D.i12.symm).ext hs₃.extBut D.i2z
  have q2 : SqK kb h₃ l2 ys := ((hl2.ext hs₁.extBut D.l2z).ext hs₂ D.l2i1).ext hs₃.extBut D.l2z
  refine wpAny_bind ?_
  show wpAny _ _ (Bind.bind (forIn [(Value.ref i2, 1)] PUnit.unit _) _) _ _ _
  refine wpAny_bind ?_
  simp only [List.forIn_cons, List.forIn_nil]
  refine wpAny_bind (wpAny_bind (nx_end (s := { heap := h₃, gens := s.gens, drawn := s.drawn, toks := s.toks, os := s.os }) hh g2 q2 hy fun h₄ hs₄ => ?_))
  rw [if_neg (show ¬ ((none : Option Value).isSome = true) from fun q => nomatch q)]
  refine wpAny_pure (wpAny_pure ?_)
  refine wpAny_bind (wpAny_rule (stop_it hh fun h' e k he => hE h' e (fun c o n1 n2 n3 n4 q => k _ _ (hs₄ _ _ n4 (hs₃.extBut _ _ n1 (hs₂ _ _ n3 (hs₁.extBut _ _ n1 q))))) he))
theorem pyNext_zs_item {ka kb : Bool} {z TI TO i1 i2 l1 l2 : Addr} {k1 k2 : Nat} {xs ys : Array Value} {x y a b : Value} {Q : Option Value → Shared → Prop} (D : ZipApart z TI TO i1 i2 l1 l2) (hz : IsZs s.heap z TI TO .none) (hTI : IsPair s.heap TI (.ref i1) (.ref i2)) (hTO : IsPair s.heap TO a b)
    (h1 : ItK ka s.heap i1 l1 k1) (h2 : ItK kb s.heap i2 l2 k2) (hl1 : SqK ka s.heap l1 xs) (hl2 : SqK kb s.heap l2 ys) (hx : xs[k1]? = some x) (hy : ys[k2]? = some y)
    (hQ : ∀ h' : Heap, IsZs h' z TI TO (rawInt (s.heap.objs.size : Int)) → IsPair h' TO x y → ItK ka h' i1 l1 (k1 + 1) → ItK kb h' i2 l2 (k2 + 1) → IsPair h' s.heap.objs.size x y → h'.objs.size = s.heap.objs.size + 1 →
      (∀ (c : Addr) (o : Obj), c ≠ z → c ≠ TO → c ≠ i1 → c ≠ i2 → s.heap.get? c = some o → h'.get? c = some o) → Q (some (.ref s.heap.objs.size)) { heap := h', gens := s.gens, drawn := s.drawn, toks := s.toks, os := s.os }) :
    wpAny (model prog w) A (pyNext (.ref z)) Q E s := by
  have hT : s.TypeIs (.ref z) "zip" := ⟨_, hz, rfl⟩
  unfold pyNext
  exact wpAny_bind (wpAny_attempt (wpAny_callSpecial?_slot hT F.slot_zip_next (wpAny_call_entry F.slot_zip_next hT F.entry_zip_next (zs_next_item D hz hTI hTO h1 h2 hl1 hl2 hx hy fun h' a1 a2 a3 a4 a5 a6 a7 => wpAny_pure (hQ h' a1 a2 a3 a4 a5 a6 a7)) (F.args_zip_next_1 (.ref z)))))
theorem pyNext_zs_end {ka kb : Bool} {z TI TO i1 i2 l1 l2 : Addr} {k1 k2 : Nat} {xs ys : Array Value} {Q : Option Value → Shared → Prop} (hh : A.handled = none) (D : ZipApart z TI TO i1 i2 l1 l2) (hz : IsZs s.heap z TI TO .none) (hTI : IsPair s.heap TI (.ref i1) (.ref i2))
    (h1 : ItK ka s.heap i1 l1 k1) (h2 : ItK kb s.heap i2 l2 k2) (hl1 : SqK ka s.heap l1 xs) (hl2 : SqK kb s.heap l2 ys) (hx : xs[k1]? = none) (hy : ys[k2]? = none)
    (hQ : ∀ h' : Heap, (∀ (c : Addr) (o : Obj), c ≠ z → c ≠ TO → c ≠ i1 → c ≠ i2 → s.heap.get? c = some o → h'.get? c = some o) → Q none { heap := h', gens := s.gens, drawn := s.drawn, toks := s.toks, os := s.os }) :
    wpAny (model prog w) A (pyNext (.ref z)) Q E s := by
  have hT : s.TypeIs (.ref z) "zip" := ⟨_, hz, rfl⟩
  unfold pyNext
  exact wpAny_bind (wpAny_attempt (wpAny_callSpecial?_slot hT F.slot_zip_next (wpAny_call_entry F.slot_zip_next hT F.entry_zip_next (zs_next_end hh D hz hTI h1 h2 hl1 hl2 hx hy fun h' e hk ⟨o, ho, hc⟩ =>
    wpAny_bind (wpAny_isInstance ⟨o, ho, hc⟩ isSubtype_stop (wpAny_pure (hQ h' hk)))) (F.args_zip_next_1 (.ref z)))))
end
end FL

set_option Elab.async false
set_option linter.all false
set_option maxRecDepth 100000
set_option maxHeartbeats 4000000
namespace FL
open PySem PySem.Spec PyProof.Rows L2
section
variable {prog : Program} {w : World} {A : Around} {E : Value → Shared → Prop} {s : Shared}
def itO (k : Bool) (l : Addr) : Obj := match k with
  | true => ⟨.type "list_iterator", none, .fields #[.ref l, .int 0 0], #[]⟩
  | false => ⟨.type "tuple_iterator", none, .fields #[.ref l, .int 0 0], #[]⟩
theorem iter_k {k : Bool} {l : Addr} {xs : Array Value} {Q : Value → Shared → Prop} (h : SqK k s.heap l xs) (hq : Q (.ref s.heap.objs.size) { heap := s.heap.push (itO k l), gens := s.gens, drawn := s.drawn, toks := s.toks, os := s.os }) : wpAny (model prog w) A (pyIter (.ref l)) Q E s := by
  cases k with
  | true => exact wpAny_pyIter_list h hq
  | false => exact wpAny_pyIter_tuple h hq
theorem SqK.push {k : Bool} {h : Heap} {l : Addr} {xs : Array Value} (e : SqK k h l xs) (o : Obj) : SqK k (h.push o) l xs := by
  cases k with
  | true => exact Heap.IsList.push e o
  | false =>
    obtain ⟨u, e1, e2⟩ := (show h.IsTuple l xs from e)
    exact ⟨u, Heap.get?_push_of_some _ e1, e2⟩
abbrev zH1 (h : Heap) (ka : Bool) (l1 : Addr) : Heap := h.push (itO ka l1)
abbrev zH2 (h : Heap) (ka kb : Bool) (l1 l2 : Addr) : Heap := (zH1 h ka l1).push (itO kb l2)
abbrev zH3 (h : Heap) (ka kb : Bool) (l1 l2 : Addr) : Heap := (zH2 h ka kb l1 l2).push ⟨.type "tuple", none, .seq #[.ref h.objs.size, .ref (zH1 h ka l1).objs.size], #[]⟩
abbrev zH4 (h : Heap) (ka kb : Bool) (l1 l2 : Addr) : Heap := (zH3 h ka kb l1 l2).push ⟨.type "tuple", none, .seq #[.none, .none], #[]⟩
abbrev zH5 (h : Heap) (ka kb : Bool) (l1 l2 : Addr) : Heap := (zH4 h ka kb l1 l2).push ⟨.type "zip", none, .fields #[.none, .bool false, .bool true, .ref (zH2 h ka kb l1 l2).objs.size, .ref (zH3 h ka kb l1 l2).objs.size], #[]⟩
abbrev kwS : List (Str × Value) := [("strict", .bool true)]
theorem zs_new {ka kb : Bool} {l1 l2 : Addr} {xs ys : Array Value} {Q : Value → Shared → Prop} (hl1 : SqK ka s.heap l1 xs) (hl2 : SqK kb s.heap l2 ys)
    (hq : Q (.ref (zH4 s.heap ka kb l1 l2).objs.size) { heap := zH5 s.heap ka kb l1 l2, gens := s.gens, drawn := s.drawn, toks := s.toks, os := s.os }) :
    wpAny (model prog w) A (Builtin.«zip.__new__» ⟨[.type "zip", .ref l1, .ref l2], kwS⟩) (fun fin s' => ∃ v, fin = Fin.done (.ret v) ∧ Q v s') E s := by
  unfold Builtin.«zip.__new__»
  refine wpAny_bind ?_
  unfold Builtin.SmallTypes.newClass
  dsimp only
  refine wpAny_bind (show wpAny _ _ (pure true) _ _ _ from wpAny_pure ?_)
  refine wpAny_ite_false (by rfl) ?_
  refine wpAny_bind (wpAny_of_eq sub_zip ?_)
  refine wpAny_ite_false (by rfl) (wpAny_pure ?_)
  dsimp only
  refine wpAny_ite_false (by rfl) ?_
  refine wpAny_ite_false (by rfl) ?_
  refine wpAny_bind (show wpAny _ _ (pure true) _ _ _ from wpAny_pure ?_)
  refine wpAny_bind ?_
  unfold Builtin.SmallTypes.iterAll
  simp only [List.forIn_cons, List.forIn_nil]
  refine wpAny_bind (wpAny_bind (wpAny_bind (wpAny_holding (iter_k hl1 (wpAny_pure ?_)))))
  dsimp only
  refine wpAny_bind (wpAny_bind (wpAny_holding (iter_k (s := { heap := s.heap.push (itO ka l1), gens := s.gens, drawn := s.drawn, toks := s.toks, os := s.os }) (hl2.push _) (wpAny_pure ?_))))
  dsimp only
  refine wpAny_pure (wpAny_pure ?_)
  refine wpAny_bind (wpAny_newTuple ?_ (show ([_, _] : List Value).length ≤ sizeLine by rw [sizeLine_eq]; exact (by decide : 2 ≤ 16777216)))
  refine wpAny_bind (wpAny_newTuple ?_ (show ([_, _] : List Value).length ≤ sizeLine by rw [sizeLine_eq]; exact (by decide : 2 ≤ 16777216)))
  refine wpAny_bind ?_
  unfold Builtin.SmallTypes.newRecord
  dsimp only
  refine wpAny_newObj_type (wpAny_pure ⟨_, rfl, hq⟩) ?_
  show 5 ≤ sizeLine + 2
  rw [sizeLine_eq]
  decide
theorem argsI (o : Value) (l1 l2 : Addr) : argsOk "object.__init__" ⟨[o, .ref l1, .ref l2], kwS⟩ := by kernel_rfl
theorem zs_init {o : Value} {l1 l2 : Addr} {Q : PySem.Fin → Shared → Prop} (h : s.TypeIs o "zip") (hq : Q (.done (.ret .none)) s) : wpAny (model prog w) A (Builtin.«object.__init__» ⟨[o, .ref l1, .ref l2], kwS⟩) Q E s := by
  unfold Builtin.«object.__init__»
  dsimp only
  rw [if_pos (by rfl)]
  refine wpAny_bind (wpAny_typeOf h ?_)
  refine wpAny_bind (wpAny_of_eq F.called_zip.init.lookup ?_)
  refine wpAny_bind (wpAny_of_eq F.called_zip.made ?_)
  rw [if_neg (by decide), if_neg (by decide)]
  exact wpAny_pure hq
theorem call_zs {ka kb : Bool} {l1 l2 : Addr} {xs ys : Array Value} {Q : Value → Shared → Prop} (hl1 : SqK ka s.heap l1 xs) (hl2 : SqK kb s.heap l2 ys)
    (hq : Q (.ref (zH4 s.heap ka kb l1 l2).objs.size) { heap := zH5 s.heap ka kb l1 l2, gens := s.gens, drawn := s.drawn, toks := s.toks, os := s.os }) : wpAny (model prog w) A (call (.type "zip") [.ref l1, .ref l2] kwS) Q E s := by
  obtain ⟨c, tl, hmro⟩ := F.called_zip.mro
  have hT : ({ heap := zH5 s.heap ka kb l1 l2, gens := s.gens, drawn := s.drawn, toks := s.toks, os := s.os } : Shared).TypeIs (.ref (zH4 s.heap ka kb l1 l2).objs.size) "zip" := ⟨_, Heap.get?_push_size _ rfl, rfl⟩
  refine wpAny_call (codeAny_of_tree ?_)
  refine wpAny_pure ⟨Code.quiet_builtin ⟨.type "zip" :: [.ref l1, .ref l2], kwS⟩ (by decide +kernel), codeAny_builtin F.entry_type_call ?_⟩
  rw [Around.under_plain (weight_type_call_type "zip" [.ref l1, .ref l2] kwS) (units_type_call_type "zip" [.ref l1, .ref l2] kwS)]
  unfold Builtin.«type.__call__»
  dsimp only
  refine wpAny_ite_false (by rfl) ?_
  refine wpAny_ite_false (by decide +kernel) ?_
  refine wpAny_bind (wpAny_of_eq (show checkTypeCall "zip" ⟨[.ref l1, .ref l2], kwS⟩ = pure () by first | rfl | kernel_rfl) ?_)
  refine wpAny_bind (wpAny_of_eq hmro ?_)
  refine wpAny_ite_false (by rfl) ?_
  refine wpAny_bind (wpAny_of_eq F.called_zip.made ?_)
  refine wpAny_bind (wpAny_pure ?_)
  refine wpAny_bind (wpAny_holding (wpAny_call (codeAny_call_builtin F.called_zip.plain F.entry_zip_new ?_)))
  refine wpAny_of_eq (show checkBuiltinCall "zip.__new__" ⟨[.type "zip", .ref l1, .ref l2], kwS⟩ = pure () by first | rfl | with_unfolding_all rfl | kernel_rfl) ?_
  refine wpAny_mono (zs_new (Q := fun v s' => v = .ref (zH4 s.heap ka kb l1 l2).objs.size ∧ s' = { heap := zH5 s.heap ka kb l1 l2, gens := s.gens, drawn := s.drawn, toks := s.toks, os := s.os }) hl1 hl2 ⟨rfl, rfl⟩) ?_ (fun _ _ h => h)
  rintro fin s' ⟨v, rfl, rfl, rfl⟩
  show wpAny _ _ (Bind.bind (isInstance _ _) _) _ _ _
  refine wpAny_bind (wpAny_isInstance hT sub_zip ?_)
  refine wpAny_ite_false (by rfl) ?_
  refine wpAny_bind (wpAny_holding (wpAny_callSpecial?_slot hT F.called_zip.init ?_))
  refine wpAny_call (codeAny_call_builtin (by decide +kernel) F.entry_object_init (F.called_zip.init.check _ _ _ _ _ _ _ _ hT (argsI _ _ _) (zs_init (A := A.in1.in1) hT ?_)))
  dsimp only
  refine wpAny_ite_false (by rfl) ?_
  exact wpAny_pure hq
end
end FL

set_option Elab.async false
set_option linter.all false
set_option maxRecDepth 100000
set_option maxHeartbeats 400000
namespace FL
open PySem PySem.Spec PyProof.Rows L2
theorem callWith_typeK {M : Model} {A : Around} {E : Value → Shared → Prop} {s : Shared} {pos : Pos} {T : String} {args : List (Bool × Sem Value)} {kws : List (Option Str × Sem Value)} {Q : Value → Shared → Prop} (hp : args.any (·.1) = false) (hk : kws.any (·.1.isNone) = false)
    (h : wpAny M A (evalArgs (.type T) true args kws) (fun a s₁ => wpAny M A (call (.type T) a.pos a.kw) Q E s₁) E s) : wpAny M A (callWith pos (.type T) [] args kws) Q E s := by
  unfold callWith
  refine wpAny_bind (wpAny_holding (wpAny_mono h (fun a s₁ h₁ => wpAny_bind (wpAny_standAt ?_)) fun _ _ h => h))
  rw [hp, hk]
  refine wpAny_bind (show wpAny _ _ (pure _) _ _ _ from wpAny_pure ?_)
  exact wpAny_bind (wpAny_mono h₁ (fun r s₂ hr => wpAny_bind (wpAny_holding (wpAny_point (wpAny_pure hr)))) fun _ _ h => h)
section
variable {prog : Program} {w : World} {A : Around} {E : Value → Shared → Prop} {s : Shared}
theorem letGo_zs {elts : List Expr} {k : Nat} {pos : Pos} {z TI TO T : Addr} {Q : Unit → Shared → Prop} (hz : IsZs s.heap z TI TO (rawInt (T : Int)))
    (hQ : ∀ h' : Heap, IsZs h' z TI TO .none → Heap.SameBut z s.heap h' → Q () { heap := h', gens := s.gens, drawn := s.drawn, toks := s.toks, os := s.os }) : wpAny (model prog w) A (letOwnedTupleGo (.Tuple elts k pos) (.ref z) (.ref T)) Q E s := by
  unfold letOwnedTupleGo
  refine wpAny_bind (wpAny_load hz ?_)
  dsimp only
  rw [if_pos (by simp)]
  exact wpAny_bind (wpAny_rule (wpAny_setField_rec hz (show 0 < 5 by decide) fun h' a b => hQ h' a b))
theorem iter_zs {z TI TO : Addr} {f0 : Value} {Q : Value → Shared → Prop} (hz : IsZs s.heap z TI TO f0) (h : Q (.ref z) s) : wpAny (model prog w) A (pyIter (.ref z)) Q E s :=
  have hT : s.TypeIs (.ref z) "zip" := ⟨_, hz, rfl⟩
  wpAny_pyIter_slot hT F.slot_zip_iter (wpAny_call_entry F.slot_zip_iter hT F.entry_zip_iter (wpAny_pure ⟨_, rfl, "zip", _, hT, F.slot_zip_next.lookup, h⟩) (F.args_zip_iter_1 (.ref z)))
end
def SqV (k : Bool) (K : PySem.W.Frag) (H : Hp) (a : Addr) (xs : List V) : Prop := match k with | true => SqL K H a xs | false => SqT K H a xs
def Itzs (K : PySem.W.Frag) (ka kb : Bool) (a b : Addr) : It :=
  ⟨fun i H => ∃ xs ys x y, SqV ka K H a xs ∧ SqV kb K H b ys ∧ xs[i]? = some x ∧ ys[i]? = some y,
   fun i H v H' => ∃ T x y, v = .ref T ∧ H T = none ∧ H' = upd H T (.tup [x, y]) ∧ (∀ xs, SqV ka K H a xs → xs[i]? = some x) ∧ ∀ ys, SqV kb K H b ys → ys[i]? = some y,
   fun i H => ∃ xs ys, SqV ka K H a xs ∧ SqV kb K H b ys ∧ xs.length ≤ i ∧ ys.length ≤ i⟩
section
variable {X : Cx} {pins : List (Addr × Obj)} {σ : L2.St} {H : Hp} {s : Shared}
theorem inv_sq {k : Bool} {a : Addr} {xs : List V} (I : Inv X pins σ H s) (h : SqV k X.K H a xs) : ∃ its, Vals xs its ∧ SqK k s.heap a its.toArray := by
  cases k with
  | true =>
    obtain ⟨its, h1, h2, _⟩ := I.list h
    exact ⟨its, h1, h2.isList⟩
  | false =>
    obtain ⟨its, h1, h2, _⟩ := I.tuple h
    exact ⟨its, h1, h2⟩
theorem inv_sq_inj {k : Bool} {a : Addr} {xs ys : List V} (I : Inv X pins σ H s) (h : SqV k X.K H a xs) (h2 : SqV k X.K H a ys) : xs = ys := by
  cases k with
  | true => exact I.list_inj h h2
  | false => exact I.tuple_inj h h2
theorem ItK.lt {k : Bool} {h : Heap} {a l : Addr} {i : Nat} (e : ItK k h a l i) : ∃ o, h.get? a = some o ∧ ∀ v, o.data ≠ .cell v := by
  cases k with
  | true =>
    obtain ⟨o, e1, e2, e3⟩ := (show h.IsListIter a l i from e)
    exact ⟨o, e1, fun v q => by rw [e3] at q; cases q⟩
  | false =>
    obtain ⟨o, e1, e2, e3⟩ := (show h.IsTupleIter a l i from e)
    exact ⟨o, e1, fun v q => by rw [e3] at q; cases q⟩
theorem ItK.at {k : Bool} {h h' : Heap} {a l : Addr} {i : Nat} (e : ItK k h a l i) (q : ∀ o, h.get? a = some o → h'.get? a = some o) : ItK k h' a l i := by
  cases k with
  | true => exact Heap.IsListIter.at e q
  | false => exact Heap.IsTupleIter.at e q
theorem turn_zs {P : Program} {w : World} {K : PySem.W.Frag} {elts : List Expr} {kk : Nat} {tpos : Pos} {ka kb : Bool} {a b z TI TO i1 i2 : Addr} (D : ZipApart z TI TO i1 i2 a b) :
    Turn P w K (.Tuple elts kk tpos) (Itzs K ka kb a b) [z, TI, TO, i1, i2] z fun i h => IsZs h z TI TO .none ∧ IsPair h TI (.ref i1) (.ref i2) ∧ (∃ x y, IsPair h TO x y) ∧ ItK ka h i1 a i ∧ ItK kb h i2 b i := by
  have nin : ∀ {c : Addr}, c ∉ [z, TI, TO, i1, i2] → c ≠ z ∧ c ≠ TI ∧ c ≠ TO ∧ c ≠ i1 ∧ c ≠ i2 := fun h => by simpa using h
  refine ⟨by simp, fun i h ⟨hz, hTI, ⟨x, y, hTO⟩, h1, h2⟩ c hc => ?_, fun i h h' ⟨hz, hTI, ⟨x, y, hTO⟩, h1, h2⟩ k => ?_, fun X hP hw hK hc i pins s σ H E I hf st hg => ?_, fun X hP hw hK hc i pins s σ H E I hf st hg => ?_, fun A i s Q E st h => iter_zs st.1 h⟩
  · have e : c = z ∨ c = TI ∨ c = TO ∨ c = i1 ∨ c = i2 := by simpa using hc
    rcases e with e | e | e | e | e
    · exact ⟨_, by rw [e]; exact hz, by intro v q; cases q⟩
    · exact ⟨_, by rw [e]; exact hTI, by intro v q; cases q⟩
    · exact ⟨_, by rw [e]; exact hTO, by intro v q; cases q⟩
    · rw [e]
      exact h1.lt
    · rw [e]
      exact h2.lt
  · exact ⟨k z (by simp) _ hz, k TI (by simp) _ hTI, ⟨x, y, k TO (by simp) _ hTO⟩, h1.at (k i1 (by simp)), h2.at (k i2 (by simp))⟩
  · subst hP hw hK
    obtain ⟨hz, hTI, ⟨x0, y0, hTO⟩, h1, h2⟩ := st
    obtain ⟨xs, ys, x, y, hqx, hqy, hx, hy⟩ := hg
    obtain ⟨its, rv, p⟩ := inv_sq I hqx
    obtain ⟨its2, rv2, p2⟩ := inv_sq I hqy
    obtain ⟨u, hu, ru⟩ := Vals.get rv hx
    obtain ⟨u2, hu2, ru2⟩ := Vals.get rv2 hy
    have hzl := Heap.lt_size hz
    refine pyNext_zs_item D hz hTI hTO h1 h2 p p2 (by simpa using hu) (by simpa using hu2) fun h' z' TO' h1' h2' hT hsz hk => ⟨_, rfl, letGo_zs z' fun h'' z'' sb => ?_⟩
    have hT2 : h''.get? s.heap.objs.size = _ := (sb.2 s.heap.objs.size (Nat.ne_of_gt hzl)).trans hT
    have new : ObjOk X.prog X.w (upd H s.heap.objs.size (.tup [x, y])) h'' s.heap.objs.size (.tup [x, y]) := ⟨by rw [sizeLine_eq]; exact (by decide : 2 ≤ 16777216), [u, u2], .cons ru (.cons ru2 .nil), _, hT2, rfl, 0, rfl⟩
    have kp : ∀ (c : Addr) (o : Obj), c ∉ [z, TI, TO, i1, i2] → s.heap.get? c = some o → h''.get? c = some o := fun c o hb q => by
      obtain ⟨n1, n2, n3, n4, n5⟩ := nin hb
      exact (sb.2 c n1).trans (hk c o n1 n3 n4 n5 q)
    have I1 := I.turnedNew (t' := s.toks) kp hf (Nat.le_refl _) new
    have lt1 : ∀ c ∈ [z, TI, TO, i1, i2], c < s.heap.objs.size := fun c hc => by
      have e : c = z ∨ c = TI ∨ c = TO ∨ c = i1 ∨ c = i2 := by simpa using hc
      rcases e with e | e | e | e | e
      · rw [e]; exact hzl
      · rw [e]; exact Heap.lt_size hTI
      · rw [e]; exact Heap.lt_size hTO
      · rw [e]
        obtain ⟨o, q, _⟩ := h1.lt
        exact Heap.lt_size q
      · rw [e]
        obtain ⟨o, q, _⟩ := h2.lt
        exact Heap.lt_size q
    refine ⟨.ref s.heap.objs.size, upd H s.heap.objs.size (.tup [x, y]), I1, rfl, ⟨_, x, y, rfl, I.hok.fresh (Nat.le_refl _), rfl, fun l hl => by rw [inv_sq_inj I hl hqx]; exact hx, fun l hl => by rw [inv_sq_inj I hl hqy]; exact hy⟩,
      ⟨z'', (sb.2 TI D.TIz).trans (hk TI _ D.TIz D.TITO D.TIi1 D.TIi2 hTI), ⟨u, u2, (sb.2 TO D.TOz).trans TO'⟩, h1'.at fun o q => (sb.2 i1 D.i1z).trans q, h2'.at fun o q => (sb.2 i2 D.i2z).trans q⟩, fun c hcm => ?_⟩
    rw [upd_ne (Nat.ne_of_lt (lt1 c hcm))]
    exact (hf c hcm).1
  · subst hP hw hK
    obtain ⟨hz, hTI, ⟨x0, y0, hTO⟩, h1, h2⟩ := st
    obtain ⟨xs, ys, hqx, hqy, hx, hy⟩ := hg
    obtain ⟨its, rv, p⟩ := inv_sq I hqx
    obtain ⟨its2, rv2, p2⟩ := inv_sq I hqy
    have l1 := Vals.length rv
    have l2 := Vals.length rv2
    refine pyNext_zs_end (I.ok.hd hc) D hz hTI h1 h2 p p2 (by simp; omega) (by simp; omega) fun h' hk => ⟨rfl, I.turnedL (t' := s.toks) (fun c o hb q => ?_) hf⟩
    obtain ⟨n1, n2, n3, n4, n5⟩ := nin hb
    exact hk c o n1 n3 n4 n5 q
end
theorem vals_2r {a b : Addr} {us : List Value} (h : Vals [V.ref a, V.ref b] us) : us = [.ref a, .ref b] := by
  cases h with
  | cons ra h =>
    cases h with
    | cons rb h =>
      cases h
      have e1 : _ = Value.ref a := ra
      have e2 : _ = Value.ref b := rb
      rw [e1, e2]
theorem vals_1b {b : Bool} {us : List Value} (h : Vals [V.bl b] us) : us = [.bool b] := by
  cases h with
  | cons ra h =>
    cases h
    have e1 : _ = Value.bool b := ra
    rw [e1]
def iZipS (K : PySem.W.Frag) (ta : TA) : TI := fun σ H R => ta σ H fun vs H1 => ∃ ka kb a b xs ys, vs = [.ref a, .ref b] ∧ SqV ka K H1 a xs ∧ SqV kb K H1 b ys ∧ R (Itzs K ka kb a b) H1
theorem pi_zipS {X : Cx} {e e2 : Expr} {ta : TA} {p pos tpos cp kp : Pos} {elts : List Expr} {kk j : Nat} (hg : Gl X "zip") (hm : X.mg "zip" = none) (ha : PA X [e, e2] ta) (hs : starEach [e, e2] X.env = (false, eval e X.env) :: starEach [e2] X.env := by rfl)
    (hpl : (backTo pos (starEach [e, e2] X.env)).any (·.1) = false := by rfl) (hk : (backToKw pos (keywordEach [⟨some "strict", .Constant (.bool true) j cp, kp⟩] X.env)).any (·.1.isNone) = false := by rfl)
    (hka : ((backToKw pos (keywordEach [⟨some "strict", .Constant (.bool true) j cp, kp⟩] X.env)).all fun x => x.fst.isSome) = true := by rfl)
    (hkn : List.filterMap (fun x => x.fst) (backToKw pos (keywordEach [⟨some "strict", .Constant (.bool true) j cp, kp⟩] X.env)) = [("strict" : Str)] := by rfl) :
    PI X (.Tuple elts kk tpos) (.Call (.Name "zip" p) [e, e2] [⟨some "strict", .Constant (.bool true) j cp, kp⟩] pos) (iZipS X.K ta) := ⟨fun pins s σ H R I h => by
  refine wpAny_Call_Name_kw (ld_blt I hg hm boot_zip (callWith_typeK hpl hk (PyProof.Rows.evalArgs_kw2 hka (thn (ha.run pos pins s σ H _ I h) fun us s1 ⟨vs, H1, I1, r1, ka, kb, a, b, xs, ys, ex, hx, hy, q⟩ => ?_) hs)))
  refine thn ((pk_cons pe_bl pk_nil : PK X [⟨some "strict", .Constant (.bool true) j cp, kp⟩] _).run pos pins s1 σ H1 (fun ks H2 => ks = [.bl true] ∧ H2 = H1) I1 ⟨rfl, rfl⟩) fun ks s2 ⟨kv, H2, I2, r2, ek, eh⟩ => ?_
  subst ex ek eh
  rw [hkn]
  obtain rfl := vals_2r r1
  obtain rfl := vals_1b r2
  obtain ⟨its, rv, p1⟩ := inv_sq I2 hx
  obtain ⟨its2, rv2, p2⟩ := inv_sq I2 hy
  refine call_zs p1 p2 ?_
  have z1 : (zH1 s2.heap ka a).objs.size = s2.heap.objs.size + 1 := Heap.size_push ..
  have z2 : (zH2 s2.heap ka kb a b).objs.size = s2.heap.objs.size + 2 := by rw [Heap.size_push, z1]
  have z3 : (zH3 s2.heap ka kb a b).objs.size = s2.heap.objs.size + 3 := by rw [Heap.size_push, z2]
  have z4 : (zH4 s2.heap ka kb a b).objs.size = s2.heap.objs.size + 4 := by rw [Heap.size_push, z3]
  have lt : ∀ {k : Bool} {c : Addr} {xs : Array Value}, SqK k s2.heap c xs → c < s2.heap.objs.size := fun {k c xs} h => by
    cases k with
    | true =>
      obtain ⟨o, q, _⟩ := (show s2.heap.IsList c xs from h)
      exact Heap.lt_size q
    | false =>
      obtain ⟨o, q, _⟩ := (show s2.heap.IsTuple c xs from h)
      exact Heap.lt_size q
  have la := lt p1
  have lb := lt p2
  have sz : ∀ (h : Heap) (o : Obj) (n : Nat), o.isFreed = false → h.objs.size = n → (h.push o).get? n = some o := fun h o n hf q => by
    subst q
    exact Heap.get?_push_size h hf
  have itF : ∀ (k : Bool) (l : Addr), (itO k l).isFreed = false := fun k l => by cases k <;> rfl
  have g5 : IsZs (zH5 s2.heap ka kb a b) (s2.heap.objs.size + 4) (s2.heap.objs.size + 2) (s2.heap.objs.size + 3) .none := by
    have q := sz (zH4 s2.heap ka kb a b) ⟨.type "zip", none, .fields #[.none, .bool false, .bool true, .ref (zH2 s2.heap ka kb a b).objs.size, .ref (zH3 s2.heap ka kb a b).objs.size], #[]⟩ _ rfl z4
    rw [z2, z3] at q
    show (Heap.push _ _).get? _ = _
    rw [z2, z3]
    exact q
  have g4 : IsPair (zH5 s2.heap ka kb a b) (s2.heap.objs.size + 3) .none .none := Heap.get?_push_of_some _ (sz _ _ _ rfl z3)
  have g3 : IsPair (zH5 s2.heap ka kb a b) (s2.heap.objs.size + 2) (.ref s2.heap.objs.size) (.ref (s2.heap.objs.size + 1)) := by
    have q := Heap.get?_push_of_some (⟨.type "tuple", none, .seq #[.none, .none], #[]⟩ : Obj) (sz (zH2 s2.heap ka kb a b) ⟨.type "tuple", none, .seq #[.ref s2.heap.objs.size, .ref (zH1 s2.heap ka a).objs.size], #[]⟩ _ rfl z2)
    have q2 := Heap.get?_push_of_some (⟨.type "zip", none, .fields #[.none, .bool false, .bool true, .ref (zH2 s2.heap ka kb a b).objs.size, .ref (zH3 s2.heap ka kb a b).objs.size], #[]⟩ : Obj) q
    exact q2.trans (by rw [z1])
  have it0 : ∀ {k : Bool} {l : Addr} {h : Heap} {c : Addr}, h.get? c = some (itO k l) → ItK k h c l 0 := fun {k l h c} q => by
    cases k with
    | true => exact ⟨_, q, rfl, rfl⟩
    | false => exact ⟨_, q, rfl, rfl⟩
  have g2 : ItK kb (zH5 s2.heap ka kb a b) (s2.heap.objs.size + 1) b 0 := it0 (Heap.get?_push_of_some _ (Heap.get?_push_of_some _ (Heap.get?_push_of_some _ (sz _ _ _ (itF _ _) z1))))
  have g1 : ItK ka (zH5 s2.heap ka kb a b) s2.heap.objs.size a 0 := it0 (Heap.get?_push_of_some _ (Heap.get?_push_of_some _ (Heap.get?_push_of_some _ (Heap.get?_push_of_some _ (sz _ _ _ (itF _ _) rfl)))))
  have D : ZipApart (s2.heap.objs.size + 4) (s2.heap.objs.size + 2) (s2.heap.objs.size + 3) s2.heap.objs.size (s2.heap.objs.size + 1) a b := by
    have la' : @LT.lt Nat instLTNat a s2.heap.objs.size := la
    have lb' : @LT.lt Nat instLTNat b s2.heap.objs.size := lb
    constructor <;> (intro q; have q' : (_ : Nat) = _ := q; omega)
  rw [z4]
  refine iter_zs (s := { heap := zH5 s2.heap ka kb a b, gens := s2.gens, drawn := s2.drawn, toks := s2.toks, os := s2.os }) g5 ?_
  refine ⟨_, _, _, Itzs X.K ka kb a b, H2, rfl, I2.kept fun c o q => Heap.get?_push_of_some _ (Heap.get?_push_of_some _ (Heap.get?_push_of_some _ (Heap.get?_push_of_some _ (Heap.get?_push_of_some _ q)))), turn_zs D, ⟨g5, g3, ⟨_, _, g4⟩, g1, g2⟩, fun c hc => ?_, q⟩
  have hge : s2.heap.objs.size ≤ c := by
    have e : c = s2.heap.objs.size + 4 ∨ c = s2.heap.objs.size + 2 ∨ c = s2.heap.objs.size + 3 ∨ c = s2.heap.objs.size ∨ c = s2.heap.objs.size + 1 := by simpa using hc
    rcases e with e | e | e | e | e <;> rw [e]
    · exact Nat.le_add_right _ 4
    · exact Nat.le_add_right _ 2
    · exact Nat.le_add_right _ 3
    · exact Nat.le_refl _
    · exact Nat.le_add_right _ 1
  exact I2.fpOk hge (I2.hok.fresh hge)⟩
section
variable {T : Tx} {X : Cx} {W : WX}
def zipD : List D → List D → List D
  | x :: xs, y :: ys => .tup [x, y] :: zipD xs ys
  | _, _ => []
theorem zipD_at : ∀ {xs ys : List D} {i : Nat} {d : D}, (zipD xs ys)[i]? = some d → ∃ x y, xs[i]? = some x ∧ ys[i]? = some y ∧ d = .tup [x, y]
  | x :: xs, y :: ys, 0, d, h => by
    unfold zipD at h
    simp at h
    exact ⟨x, y, rfl, rfl, h.symm⟩
  | x :: xs, y :: ys, i + 1, d, h => by
    unfold zipD at h
    exact zipD_at (i := i) (by simpa using h)
  | [], _, _, _, h => by simp [zipD] at h
  | _ :: _, [], _, _, h => by simp [zipD] at h
theorem zipD_len : ∀ {xs ys : List D}, xs.length = ys.length → (zipD xs ys).length = xs.length
  | x :: xs, y :: ys, h => by
    unfold zipD
    simp at h ⊢
    exact zipD_len h
  | [], _, h => by simp [zipD]
  | _ :: _, [], h => by simp at h
/-- a list or a tuple that stands -/
def seqD : Xv → Option (List D)
  | .d (.tup xs) => some xs
  | .d (.lst xs) => some xs
  | .d (.scr ns) => some (ns.map .int)
  | _ => none
theorem seqD_ok {w : Wd} {x : Xv} {v : V} {xs : List D} (e : RX T w x v) (h : seqD x = some xs) : ∃ k a vs, v = .ref a ∧ SqV k T.K w.G a vs ∧ Rs T w.G xs vs := by
  unfold seqD at h
  split at h
  · cases h
    obtain ⟨a, vs, f1, f2, f3⟩ := (show R T w.G (.tup xs) v from e : _)
    exact ⟨false, a, vs, f1, f2, f3⟩
  · cases h
    have x1' : R T w.G (.lst xs) v := e
    unfold R at x1'
    obtain ⟨a, vs, f1, f2, f3⟩ := x1'
    exact ⟨true, a, vs, f1, .of f2, f3⟩
  · rename_i ns
    cases h
    have x1' : R T w.G (.scr ns) v := e
    unfold R at x1'
    obtain ⟨a, f1, f2⟩ := x1'
    exact ⟨true, a, _, f1, f2, rs_ints ns⟩
  · cases h
theorem sqV_mono {k : Bool} {K : PySem.W.Frag} {G H : Hp} {a : Addr} {xs : List V} (g : Same G H) (h : SqV k K G a xs) : SqV k K H a xs := by
  cases k with
  | true => exact g.seq h
  | false => exact sqT_mono g h
theorem wk_zip {G : Hp} {ka kb : Bool} {a b : Addr} {vs us : List V} {xs ys : List D} (e1 : SqV ka T.K G a vs) (e2 : SqV kb T.K G b us) (h1 : Rs T G xs vs) (h2 : Rs T G ys us) (hl : xs.length = ys.length) : Wk T G (Itzs T.K ka kb a b) (zipD xs ys) := by
  refine ⟨fun i d w s H hi g r => ?_, fun w s H g r => ?_⟩
  · obtain ⟨x, y, hx, hy, rfl⟩ := zipD_at hi
    obtain ⟨v, hv, rv⟩ := h1.get hx
    obtain ⟨u, hu, ru⟩ := h2.get hy
    have q1 := sqV_mono r.g (sqV_mono g e1)
    have q2 := sqV_mono r.g (sqV_mono g e2)
    refine ⟨⟨vs, us, v, u, q1, q2, hv, hu⟩, ?_⟩
    rintro z H' ⟨t, v', u', rfl, ht, rfl, k1, k2⟩
    have f1 := k1 vs q1
    have f2 := k2 us q2
    rw [hv] at f1
    rw [hu] at f2
    cases f1
    cases f2
    obtain ⟨l, r'⟩ := r.laidG (o := .tup [v, u]) ht
    refine ⟨_, l, ?_, r'⟩
    show R T _ (.tup [x, y]) _
    unfold R
    exact ⟨t, [v, u], rfl, .inl (.inl upd_same), Rs.mono l.g (.cons (R.mono g rv) (.one (R.mono g ru)))⟩
  · exact ⟨vs, us, sqV_mono r.g (sqV_mono g e1), sqV_mono r.g (sqV_mono g e2), by rw [zipD_len hl, h1.length]; exact Nat.le_refl _, by rw [zipD_len hl, hl, h2.length]; exact Nat.le_refl _⟩
def zipSF (g : FA) : FE := fun ρ s => (g ρ s).bind fun xs s1 => match xs with
  | [x, y] => match seqD x, seqD y with
    | some as, some bs => if as.length = bs.length then .ok (.d (.lst (zipD as bs))) s1 else .stuck
    | _, _ => .stuck
  | _ => .stuck
theorem pfi_zipS {e e2 : Expr} {g : FA} {p pos tpos cp kp : Pos} {elts : List Expr} {kk j : Nat} (hK : X.K = T.K) (hm : X.mg "zip" = none) (ha : PFA T X W [e, e2] g) (hg : Gl X "zip" := by rfl) (hs : starEach [e, e2] X.env = (false, eval e X.env) :: starEach [e2] X.env := by rfl)
    (hpl : (backTo pos (starEach [e, e2] X.env)).any (·.1) = false := by rfl) (hk : (backToKw pos (keywordEach [⟨some "strict", .Constant (.bool true) j cp, kp⟩] X.env)).any (·.1.isNone) = false := by rfl)
    (hka : ((backToKw pos (keywordEach [⟨some "strict", .Constant (.bool true) j cp, kp⟩] X.env)).all fun x => x.fst.isSome) = true := by rfl)
    (hkn : List.filterMap (fun x => x.fst) (backToKw pos (keywordEach [⟨some "strict", .Constant (.bool true) j cp, kp⟩] X.env)) = [("strict" : Str)] := by rfl) :
    PFI T X W (.Tuple elts kk tpos) (.Call (.Name "zip" p) [e, e2] [⟨some "strict", .Constant (.bool true) j cp, kp⟩] pos) (zipSF g) :=
  PI.imp (pi_zipS hg hm ha hs hpl hk hka hkn) fun st H Q ⟨w, ρ, s, e, q, p⟩ => rdA_mono (postI_bindL e q p) fun us H1 ⟨w1, xs, s1, l1, e1, x1, r1, p1⟩ => by
    rw [hK]
    split at p1
    · rename_i x y
      split at p1
      · rename_i as bs ha hb
        split at p1
        · rename_i hl
          obtain ⟨v, u, rfl, x2, x3⟩ := rxs2 x1
          obtain ⟨ka, a, vs, f1, f2, f3⟩ := seqD_ok x2 ha
          obtain ⟨kb, b, ws, g1, g2, g3⟩ := seqD_ok x3 hb
          subst f1 g1
          exact ⟨ka, kb, a, b, vs, ws, rfl, sqV_mono r1.g f2, sqV_mono r1.g g2, p1 w1 _ H1 (.refl _) (wk_zip f2 g2 f3 g3 hl) r1⟩
        · exact p1.elim
      · exact p1.elim
    · exact p1.elim
end
end FL

set_option Elab.async false
set_option linter.all false
set_option maxRecDepth 100000
set_option maxHeartbeats 400000
namespace FL
open PySem PySem.W PySem.Calls PyProof.Rows PySem.HandSPX
/-! ### an own error: super().__init__(value); self.value = value -/
def iA (p1 p2 pd : Pos) : Arguments := { posonlyargs := [], args := [{ arg := "self", annotation := none, pos := p1 }, { arg := "value", annotation := none, pos := p2 }], vararg := none, kwonlyargs := [], kw_defaults := [], kwarg := none, defaults := [.Constant .none 0 pd] }
def iB (q1 q2 q3 q4 q5 q6 q7 q8 q9 qa : Pos) : List Stmt := [.Expr (.Call (.Attribute (.Call (.Name "super" q1) [] [] q2) "__init__" q3) [.Name "value" q4] [] q5) q6, .Assign [.Attribute (.Name "self" q7) "value" q8] (.Name "value" q9) qa]
def iS : Scope := { kind := .function, names := [(PySem.Str.ofString "self", .local), (PySem.Str.ofString "value", .local), (PySem.Str.ofString "__class__", .free), (PySem.Str.ofString "super", .globalImplicit)], isGenerator := false, isCoroutine := false, more := [] }
theorem iS_c : ∀ y ∈ iS.names, y.2 ≠ .cell := by decide +kernel
theorem iS_sup : iS.names.lookup ("super" : Str) = some .globalImplicit := by decide +kernel
theorem iS_cls : iS.names.lookup ("__class__" : Str) = some .free := by decide +kernel
theorem iS_self : iS.names.lookup ("self" : Str) = some .local := by decide +kernel
theorem iS_val : iS.names.lookup ("value" : Str) = some .local := by decide +kernel
theorem err_binds {s : Shared} {qual : Str} {p1 p2 pd : Pos} {body : List Stmt} {Td : Addr} {kV doc pm cdv ct : Value} {an : Option Addr} {cc : Addr} {oT : Obj} {n : Nat} {a v : Value} (hT : s.heap.get? Td = some oT) (hd : oT.data = .seq #[.none] n) :
    BindsTo s (ksFn "__init__" qual (iA p1 p2 pd) body iS (.ref Td) kV doc pm an cdv ct cc) ⟨[a, v], []⟩ [("self", a), ("value", v)] := by
  intro M A E Q h
  have e : ∃ k, bindArgs (ksFn "__init__" qual (iA p1 p2 pd) body iS (.ref Td) kV doc pm an cdv ct cc) ⟨[a, v], []⟩ = seqItems? (.ref Td) >>= k ∧ k (some #[.none]) = pure ([("self", a), ("value", v)] : List (Str × Value)) := ⟨_, rfl, by first | with_unfolding_all rfl | kernel_rfl⟩
  obtain ⟨k, e1, e2⟩ := e
  rw [e1]
  exact wpAny_bind (wpAny_seqItems hT hd (wpAny_of_eq e2 h))
theorem iS_l (a b : Value) : ∀ y ∈ ([("self", a), ("value", b)] : List (Str × Value)), iS.names.lookup y.1 = some .local := by
  intro y hy
  have e : y = (("self" : Str), a) ∨ y = (("value" : Str), b) := by simpa using hy
  rcases e with e | e
  · subst e
    show iS.names.lookup ("self" : Str) = some .local
    decide +kernel
  · subst e
    show iS.names.lookup ("value" : Str) = some .local
    decide +kernel
def veB : List Value := [.type "ValueError", .type "Exception", .type "BaseException", .type "object"]
theorem ev_sup (env : Env) (q1 q2 q4 : Pos) (apos pos : Pos) (h : (apos.endLine == pos.line) = true) : eval (.Call (.Attribute (.Call (.Name "super" q1) [] [] q2) "__init__" apos) [.Name "value" q4] [] pos) env = (do
          let ov ← attributeBase (.Call (.Name "super" q1) [] [] q2) "__init__" env (eval (.Call (.Name "super" q1) [] [] q2) env)
          standAt apos.atName
          let __x ← holding [ov] (getMethod ov "__init__" (do
            let b ← importBound (.Call (.Name "super" q1) [] [] q2) env
            pure (b.getD true)))
          match __x with
            | (f, first) => callWith pos f first (backTo pos (starEach [.Name "value" q4] env)) []) := by
  show (do
          let ov ← attributeBase (.Call (.Name "super" q1) [] [] q2) "__init__" env (eval (.Call (.Name "super" q1) [] [] q2) env)
          standAt apos.atName
          methodCall (.Call (.Name "super" q1) [] [] q2) "__init__" apos pos env ov 1 (backTo pos (starEach [.Name "value" q4] env)) []) = _
  have e : ∀ ov, methodCall (.Call (.Name "super" q1) [] [] q2) "__init__" apos pos env ov 1 (backTo pos (starEach [.Name "value" q4] env)) [] = (do
          let __x ← holding [ov] (getMethod ov "__init__" (do
            let b ← importBound (.Call (.Name "super" q1) [] [] q2) env
            pure (b.getD true)))
          match __x with
            | (f, first) => callWith pos f first (backTo pos (starEach [.Name "value" q4] env)) []) := fun ov => by
    have f : methodCallForm 1 (backTo pos (starEach [.Name "value" q4] env)) [] = true := rfl
    unfold methodCall methodCallPos
    rw [f, h]
    rfl
  simp only [e]

/-- what the written part says of such a class -/
structure ErrTxt (prog : Program) (K : Frag) (C fI : Addr) : Prop where
  cls : ∃ nm q N bs bm sn sub ab col dd k0 k1 k2 k3 k5, K.lookup C = some (excClassObj nm q C N bs bm true sn sub ab col dd k0 k1 k2 k3 k5 "ValueError.__new__") ∧ refsVE bm = true
  sa : findIn K (.ref C) "__setattr__" = some (some (.builtin "object.__setattr__"))
  ga : findIn K (.ref C) "__getattribute__" = some (some (.builtin "BaseException.__getattribute__"))
  gg : findIn K (.ref C) "__getattr__" = some none
  noN : findIn K (.ref C) "value" = some none
  iC : findIn K (.ref C) "__init__" = some (some (.ref fI))
  tC : typeIn K (.ref fI) = some (.type "function")
  kC : keepIn K (.ref C) = true
  exC : subIn K (.ref C) (.type "BaseException") = some true
  tyC : typeIn K (.ref C) = some (.type "type")
  hdC : hasDictIn K C = true
  xi : excInitIn K C veB "ValueError.__new__" = true
  sup : ks_superIn K C C "__init__" = some (some (.builtin "ValueError.__init__"))
  sV : subIn K (.ref C) (.type "ValueError") = some true
  nt : nsIn K cStatics "thirdparty.any" = some none
  mC : mroIn K C (.ref C) = some true
  fn : ∃ (oc : Value) (od : Option Addr) (Td : Addr) (oT : Obj) (nT : Nat) (kV doc pm : Value) (an : Option Addr) (cda : Addr) (ct : Value) (osl : Array (Option Value)) (p1 p2 q1 q2 q3 q4 q5 q6 q7 q8 q9 qa : Pos) (pd : Pos) (qual : Str) (cc : Addr) (ccl : Value) (cdd : Option Addr) (vs : Array Value) (ccs : Array (Option Value)) (file : Str) (tf : Tok) (cl : Value) (cld : Option Addr) (csl : Array (Option Value)),
    K.lookup fI = some ⟨oc, od, .func (ksFn "__init__" qual (iA p1 p2 pd) (iB q1 q2 q3 q4 q5 q6 q7 q8 q9 qa) iS (.ref Td) kV doc pm an (.ref cda) ct cc), osl⟩ ∧ codeIn K (.ref cda) qual = true ∧ K.lookup Td = some oT ∧ oT.data = .seq #[.none] nT ∧ (q3.endLine == q5.line) = true ∧
    K.lookup cda = some ⟨ccl, cdd, .fields vs, ccs⟩ ∧ vs[2]? = some (.str file tf) ∧ (prog.main.file == file) = true ∧ K.lookup cc = some ⟨cl, cld, .cell (some (.ref C)), csl⟩
  top : (prog.main.scope.names.lookup ("super" : Str)).isSome = false
/-- what __init__ leaves of a fresh exception at x -/
structure InitEnd (h h' : Heap) (x C dx t1 : Addr) (v : Value) : Prop where
  keep : ∀ b o, b ≠ x → h.get? b = some o → h'.get? b = some o
  obj : h'.get? x = some { cls := .ref C, dict := some dx, data := .fields #[.ref t1, .none, .none, .none, .bool false, .none] }
  dbig : h.objs.size ≤ dx
  dne : dx ≠ x
  ns : h'.Ns1 dx (fun y => if y = "value" then some v else none)
/-- what stands of a made error -/
structure OwnMade (h h' : Heap) (e C d : Addr) (v : Value) : Prop where
  keep : ∀ b o, h.get? b = some o → h'.get? b = some o
  new : h.objs.size ≤ e
  obj : ∃ oe vs, h'.get? e = some oe ∧ oe.cls = Value.ref C ∧ oe.dict = some d ∧ oe.data = .fields vs ∧ vs[1]? = some .none
  dbig : h.objs.size ≤ d
  dne : d ≠ e
  ns : h'.Ns1 d (fun y => if y = "value" then some v else none)
theorem one_sz (v : Value) : [v].length ≤ sizeLine := by
  rw [sizeLine_eq]
  exact (by decide : 1 ≤ 16777216)
section
variable {prog : Program} {w : World} {A : Around} {E : Value → Shared → Prop} {R : Result → Shared → Prop} {s : Shared} {K : Frag} {mg mb : Str → Option Value} {C fI : Addr}
theorem ldE {M : Model} {A : Around} {E : Value → Shared → Prop} {s : Shared} {name : Str} {scope : Scope} {L a : Addr} {cd : Value} {cc : Addr} {m : Str → Option Value} {x : Str} {pos : Pos} {v : Value} {Q : Value → Shared → Prop} (hn : s.heap.Ns L m) (hv : m x = some v) (h : Q v s)
    (hk : scope.kind = .function := by rfl) (hl : (ksEnv name scope L a cd cc).kindOf x = some .local := by rfl) (hd : (x == ("__debug__" : Str)) = false := by decide) :
    wpAny M A (eval (.Name x pos) (ksEnv name scope L a cd cc)) Q E s := wpAny_Name (wpAny_loadName_local hk hl hn hv h) hd
theorem err_init (T : ErrTxt prog K C fI) {x t0 : Addr} {v : Value} (X : K.In s.heap) (hlim : s.heap.NoLimit) (hg : s.heap.Ns mainGlobals mg) (hb : s.heap.Ns builtinsNs mb) (hms : mg "super" = none) (hbs : mb "super" = some (.type "super"))
    (hx : s.heap.get? x = some (excO C t0)) (hnx : K.lookup x = none) (hroom : A.depth < recursionLimit)
    (hq : ∀ h' tk dx t1, InitEnd s.heap h' x C dx t1 v → R (.ok (.ret .none)) { s with heap := h', toks := tk }) :
    codeAny (model prog w) A (.call (.ref fI) ⟨[.ref x, v], []⟩) R s := by
  obtain ⟨oc, od, Td, oT, nT, kV, doc, pm, an, cda, ct, osl, p1, p2, q1, q2, q3, q4, q5, q6, q7, q8, q9, qa, pd, qual, cc, ccl, cdd, vs, ccs, file, tf, cl, cld, csl, ho, hcd, hTd, hTs, hqq, hcda, hvs, hfile, hcell⟩ := T.fn
  obtain ⟨nm, q, N, bs, bm, sn, sub, ab, col, dd2, k0, k1, k2, k3, k5, hC, hbm⟩ := T.cls
  have hcl : clsIn K C = some { name := nm, bases := bs, mro := .ref C :: bm, ns := N, qualname := q, hasDict := true, slotNames := sn, subclasses := sub, abstract := ab, collection := col, hasDel := false } := by unfold clsIn; rw [hC] <;> rfl
  refine ks_codeAny_call_defAt (binds := [("self", .ref x), ("value", v)]) hroom (X _ _ ho) rfl hlim (codeRec_of X hcd) rfl (err_binds (X _ _ hTd) hTs) iS_c (iS_l _ _) (fun h₁ hn k => ?_) rfl rfl rfl
  have hxL : s.heap.objs.size ≠ x := Nat.ne_of_gt (Heap.lt_size hx)
  -- the exception is hidden in what stands
  have F1 : Fr (hideAll s.heap [x]) s.heap.objs.size h₁ (fun y => List.lookup y ([("self", .ref x), ("value", v)] : List (Str × Value)).reverse) := ⟨hn, fun b o e => k b o (of_hideAll _ e), Nat.le_of_eq (hideAll_size _ _)⟩
  have N1 : News (hideAll s.heap [x]) s.heap.objs.size h₁ [(x, excObj C t0 none .none)] := fun p hp => by
    have e : p = (x, excObj C t0 none .none) := by simpa using hp
    subst e
    exact ⟨k _ _ hx, hxL.symm, hideAll_none _ (by simp)⟩
  have Xg : K.In (hideAll s.heap [x]) := fun b o e => hideAll_get [x] (X _ _ e) (fun z => by
    have z' : b = x := by simpa using z
    subst z'
    rw [hnx] at e
    cases e)
  have X1 : K.In h₁ := X.keeps k
  have kS : ∀ (nm : Str), (ksEnv qual iS s.heap.objs.size fI (.ref cda) cc).kindOf nm = iS.names.lookup nm := fun nm => rfl
  refine ks_wpAt_execs_cons (ks_wpAt_Expr_any (ks_wpAt_MethodCall (pl := do
            let b ← importBound (.Call (.Name "super" q1) [] [] q2) (ksEnv qual iS s.heap.objs.size fI (.ref cda) cc)
            pure (b.getD true)) ?_ (ev_sup _ _ _ _ _ _ hqq)) rfl rfl)
  obtain ⟨oD, hD1, hD2⟩ : ∃ oD, h₁.get? C = some oD ∧ oD.data = .cls { name := nm, bases := bs, mro := .ref C :: bm, ns := N, qualname := q, hasDict := true, slotNames := sn, subclasses := sub, abstract := ab, collection := col, hasDel := false } := ⟨_, X1 _ _ hC, rfl⟩
  refine ks_wpAt_super_base (f := fI) (cc := cda) (ar := { arg := "self", annotation := none, pos := p1 }) iS_sup iS_cls (by decide +kernel) rfl (X1 _ _ ho) rfl rfl rfl (X1 _ _ hcda) rfl hvs hfile T.top ?_
  refine ks_loadName_global rfl iS_sup (Calls.loadGlobal_builtin (hg.keeps k) hms (hb.keeps k) hbs ⟨rfl, ?_⟩)
  refine wpAny_loadName_free (c := cc) rfl iS_cls rfl ⟨_, X1 _ _ hcell, rfl⟩ ?_
  refine wpAny_loadName_local rfl iS_self hn (show List.lookup ("self" : Str) ([("self", .ref x), ("value", v)] : List (Str × Value)).reverse = some (.ref x) by rfl) ?_
  refine ks_wpAny_isType_cls hD1 hD2 ⟨rfl, ?_⟩
  refine ks_wpAny_call_super hD1 hD2 (k _ _ hx) rfl (fun c e => by cases e) (looks_mroIn X1 T.mC) fun h₂ e₂ k₂ => ?_
  obtain ⟨F2, N2, l2⟩ := ks_newsPush (s := { heap := h₁, gens := s.gens, drawn := s.drawn, toks := s.toks + 2, os := s.os }) F1 N1 rfl e₂ k₂
  refine kxs_method kxs_ValueError F2 Xg N2 (x := x) (C := C) (D := C) (ox := excO C t0) (odx := none) (List.mem_cons_self ..) ⟨(N2 _ (List.mem_cons_of_mem _ (List.mem_cons_self ..))).1, rfl, rfl, trivial⟩ T.nt T.sup T.sV (by decide +kernel) fun u h₃ F3 N3 l3 => ?_
  refine kxs_callWith1 N3 (u := u) (i := "ValueError.__init__") (List.mem_cons_self ..) ?_ rfl rfl
  have nso : (h₁.objs.size : Addr) ≠ x := Ne.symm (Nat.ne_of_lt (l2 _ (List.mem_cons_self ..)))
  have nu : u ≠ x := Ne.symm (Nat.ne_of_lt (l3 (x, excObj C t0 none .none) (List.mem_cons_of_mem _ (List.mem_cons_self ..))))
  refine PyProof.Rows.spliced_more (ldE (v := v) F3.ns (by rfl) (PyProof.Rows.spliced_none ⟨kxs_at N3 (List.mem_cons_self ..), ?_⟩) rfl iS_val) rfl
  refine kxs_call F3 Xg N3 F.excBase_ValueError T.xi (List.mem_cons_self ..) (.tail nu (.tail nso (.head fun p hp => nomatch hp))) (one_sz v) fun t1 h₄ F4 N4 l4 => ?_
  have hx4 : h₄.get? x = some (excO C t1) := (N4 (x, excObj C t1 none .none) (by simp)).1
  have X4 : K.In h₄ := Xg.keeps F4.keep
  refine wpAt_of_wpAny (wpAny_execs_cons (plainObj_wpAny_Assign_Attribute ?_))
  refine ldE (v := v) F4.ns (by rfl) (ldE (v := .ref x) F4.ns (by rfl) ?_ rfl iS_self) rfl iS_val
  refine set_plain X4 (ox := excO C t1) (od := none) ⟨hx4, rfl, rfl, trivial⟩ T.sa ?_
  refine exc_osa X4 hx4 hcl (show refsVE (.ref C :: bm) = true from hbm) rfl T.noN (fun h₅ tk₅ dx k₅ dn dne hx₅ hn₅ => ?_)
  have old : ∀ b o, b ≠ x → s.heap.get? b = some o → h₅.get? b = some o := fun b o hb e => k₅ b o hb (F4.keep b o (hideAll_get [x] e (by simpa using hb)))
  have sz : s.heap.objs.size ≤ dx := by
    have q : s.heap.objs.size < h₄.objs.size := F4.ns.lt
    exact Nat.le_of_lt (Nat.lt_of_lt_of_le q dn)
  exact wpAny_execs_nil (hq h₅ tk₅ dx t1 ⟨old, hx₅, sz, dne, hn₅⟩)
theorem err_made (T : ErrTxt prog K C fI) {v : Value} (X : K.In s.heap) (hlim : s.heap.NoLimit) (hg : s.heap.Ns mainGlobals mg) (hb : s.heap.Ns builtinsNs mb) (hms : mg "super" = none) (hbs : mb "super" = some (.type "super")) (hroom : A.depth + 1 < recursionLimit)
    (hq : ∀ h' tk e d, OwnMade s.heap h' e C d v → R (.ok (.ret (.ref e))) { s with heap := h', toks := tk }) :
    codeAny (model prog w) A (.call (.ref C) ⟨[v], []⟩) R s := by
  obtain ⟨nm, q, N, bs, bm, sn, sub, ab, col, dd, k0, k1, k2, k3, k5, hC, hbm⟩ := T.cls
  obtain ⟨hp, g, dr, tk, os⟩ := s
  have k : ∀ b o, hp.get? b = some o → ((hp.push (kdv_tup [v])).push (excO C hp.objs.size)).get? b = some o := fun b o e => Heap.get?_push_of_some _ (Heap.get?_push_of_some _ e)
  have hget : ((hp.push (kdv_tup [v])).push (excO C hp.objs.size)).get? (hp.objs.size + 1) = some (excO C hp.objs.size) := by heap_get
  have hnx : K.lookup (hp.objs.size + 1) = none := by
    cases e : K.lookup (hp.objs.size + 1) with
    | none => rfl
    | some o =>
      have z : hp.get? (hp.objs.size + 1) = some o := X _ _ e
      exact absurd (Nat.lt_of_succ_lt (Heap.lt_size z)) (Nat.lt_irrefl _)
  refine call_own F.excBase_ValueError (fun X => refsVE_contains X bm hbm) (X _ _ hC) (looks_findIn X T.iC) (fun self => bind_fn X self T.tC) (one_sz v) ?_
  refine err_init (s := ⟨(hp.push (kdv_tup [v])).push (excO C hp.objs.size), g, dr, tk, os⟩) T (X.keeps k) (hlim.keeps k) (hg.keeps k) (hb.keeps k) hms hbs hget hnx ?_ fun h' tk' dx t1 ⟨k', hx, dn, dne, hns⟩ => ?_
  · show A.depth + 1 < recursionLimit
    exact hroom
  · have old : ∀ b o, hp.get? b = some o → h'.get? b = some o := fun b o e => k' b o (Nat.ne_of_lt (Nat.lt_succ_of_lt (Heap.lt_size e))) (k b o e)
    have z : hp.objs.size + 1 + 1 ≤ dx := by
      first
        | (simpa only [Heap.size_push] using dn)
        | exact dn
        | (have q := dn; rw [Heap.size_push, Heap.size_push] at q; exact q)
    exact ⟨rfl, hq h' tk' (hp.objs.size + 1) dx ⟨old, Nat.le_succ _, ⟨_, _, hx, rfl, rfl, rfl, rfl⟩, Nat.le_trans (Nat.le_trans (Nat.le_succ _) (Nat.le_succ _)) z, dne, hns⟩⟩
end
end FL

set_option Elab.async false
set_option linter.all false
set_option maxRecDepth 100000
set_option maxHeartbeats 400000
namespace FL
open PySem PySem.Spec PyProof.Rows L2
/-- an exception's class -/
structure ExK (K : PySem.W.Frag) (C : Addr) : Prop where
  ga : PySem.W.findIn K (.ref C) "__getattribute__" = some (some (.builtin "BaseException.__getattribute__"))
  gg : PySem.W.findIn K (.ref C) "__getattr__" = some none
  exC : PySem.W.subIn K (.ref C) (.type "BaseException") = some true
  hdC : PySem.W.hasDictIn K C = true
  cl : (PySem.W.clsIn K C).isSome = true
  ha : PySem.W.findIn K (.ref C) "__class__" = some (some (.builtin "object.__class__"))
  hn : PySem.W.specialIn K (.builtin "object.__class__") "__get__" = some (some (.builtin "getset_descriptor.__get__"))
  ht : PySem.W.takesIn K (.builtin "object.__class__") = some true
  hm : PySem.W.mroIn K C (.type "object") = some true
  noV : PySem.W.findIn K (.ref C) "value" = some none
/-- the exception at a, in a heap -/
theorem ex_inst {X : Cx} {pins : List (Addr × Obj)} {σ : L2.St} {H : Hp} {s : Shared} {a C : Addr} {d : Option Addr} (I : Inv X pins σ H s) (h : H a = some (ExA (.ref C) d a)) (hd : d = none ∨ ∃ dd fs, d = some dd ∧ H dd = some (.xd fs)) :
    ∃ oe od, PySem.W.InstAt s.heap a oe C od := by
  obtain ⟨⟨oe, e1, ⟨e2, e3⟩, vs, e4⟩, _, _⟩ := (show (∃ (oe : Obj), s.heap.get? a = some oe ∧ Zc (.ref C) d oe ∧ ∃ vs, oe.data = .fields vs) ∧ _ from I.hok a _ h)
  have no : PySem.W.notCls oe = true := by
    unfold PySem.W.notCls
    rw [e4]
  rcases hd with rfl | ⟨dd, fs, rfl, q⟩
  · exact ⟨oe, none, e1, e2, no, by rw [e3]; trivial⟩
  · obtain ⟨mA, hns, hr⟩ := (show ∃ mA, s.heap.Ns1 dd mA ∧ ∀ f : Str, RelO (List.lookup f fs) (mA f) from I.hok dd _ q)
    obtain ⟨od, ho, hl⟩ := lookIn_ns hns
    exact ⟨oe, some od, e1, e2, no, by rw [e3]; exact ho⟩
def rIsEx (K : PySem.W.Frag) : RN := fun xs H Q => ∃ (a D : Addr) (d : Option Addr) (c : V) (u : Value) (b : Bool), xs = [.ref a, c] ∧ ExK K D ∧ H a = some (ExA (.ref D) d a) ∧ (d = none ∨ ∃ dd fs, d = some dd ∧ H dd = some (.xd fs)) ∧ ClsV c u ∧ PySem.W.kitOne K (.ref D) u = some b ∧ Q (.bl b) H
theorem clsV_rel {c : V} {u v : Value} (h : ClsV c u) (r : RelV c v) : v = u := by
  cases h with
  | ty n => exact r
  | own C => exact r
theorem call_isEx {X : Cx} : CallR X (.builtin "isinstance") (rIsEx X.K) := by
  rintro pins s σ H xs us Q I r ⟨a, D, d, c, u, b, rfl, C, hx, hd, hc, e, q⟩
  obtain ⟨oe, od, J⟩ := ex_inst I hx hd
  cases r with
  | cons ra r =>
    cases r with
    | cons rb r =>
      cases r
      have e1 : _ = Value.ref a := ra
      have e2 := clsV_rel hc rb
      subst e1 e2
      exact PySem.W.kia_one (PySem.W.kitx_exc C.cl C.ga C.gg C.exC C.ha C.hn C.ht C.hm) I.kIn J e (fun z => nomatch z) fun tk => ⟨.bl b, H, I.kept fun _ _ z => z, rfl, q⟩
theorem callR_or {X : Cx} {f : Value} {r1 r2 : RN} (h1 : CallR X f r1) (h2 : CallR X f r2) : CallR X f (fun xs H Q => r1 xs H Q ∨ r2 xs H Q) := fun pins s σ H xs us Q I r h => h.elim (h1 pins s σ H xs us Q I r) (h2 pins s σ H xs us Q I r)
/-- what is known of the exceptions' classes -/
structure TxEx (T : Tx) (ex : Nat → Bool) : Prop where
  k : ∀ c, ex c = true → ExK T.K (T.ct c)
  is : ∀ c d, ex c = true → ex d = true → PySem.W.kitOne T.K (.ref (T.ct c)) (.ref (T.ct d)) = some (T.sub c d)
  ma : ∀ c d, ex c = true → ex d = true → PySem.W.exmOne T.K (.ref (T.ct c)) (.ref (T.ct d)) = some (T.sub c d)
section
variable {T : Tx} {X : Cx} {W : WX} {own ex : Nat → Bool}
def isEX (n : Nat) (sub : Nat → Nat → Bool) (own ex : Nat → Bool) (xs : List Xv) (s : Sto) : Res := match xs with
  | [.d (.exc c _ _), .d (.cls k)] => if ex c = true ∧ ex k = true then okB (sub c k) s else .stuck
  | xs => isiX n sub own xs s
theorem isEX_ok (K : TxOk T own) (E : TxEx T ex) : OpN T W (fun xs H Q => rIsEx T.K xs H Q ∨ rIsi T.K xs H Q) (isEX T.n T.sub own ex) := by
  intro st w xs vs s H Q hx r p
  unfold isEX at p
  split at p
  · rename_i c ns ws k
    split at p
    · rename_i h
      obtain ⟨v, u, rfl, e, f⟩ := rxs2 hx
      cases cls_v f
      have e' : R T w.G (.exc c ns ws) v := e
      unfold R at e'
      obtain ⟨a, d, fs, e1, e2, e3, e4, e5⟩ := e'
      subst e1
      refine .inl ⟨a, T.ct c, d, _, _, _, rfl, E.k c h.1, r.g _ _ e2, ?_, .own _, E.is c k h.1 h.2, okB_q p r⟩
      rcases e3 with e3 | ⟨dd, e3, e6⟩
      · exact .inl e3.1
      · exact .inr ⟨dd, fs, e3, r.g _ _ e6⟩
    · exact p.elim
  · exact .inr (isi_ok K st w _ vs s H Q hx r p)
end
end FL

set_option Elab.async false
set_option linter.all false
set_option maxRecDepth 100000
set_option maxHeartbeats 400000
namespace FL
open PySem PySem.Spec PyProof.Rows L2
theorem relO_val {v : V} {v' : Value} (r : RelV v v') (f : Str) : RelO (List.lookup f [(("value" : Str), v)]) (if f = "value" then some v' else none) := by
  by_cases hw : f = "value"
  · subst hw
    rw [if_pos rfl]
    have q : List.lookup ("value" : Str) [(("value" : Str), v)] = some v := by simp [List.lookup]
    rw [q]
    exact r
  · rw [if_neg hw]
    have qw : (f == ("value" : Str)) = false := by simpa using hw
    have q2 : List.lookup f [(("value" : Str), v)] = none := by simp [List.lookup, qw]
    rw [q2]
    trivial
theorem boot_super : bootBuiltins "super" = some (.type "super") := by first | rfl | decide +kernel | kernel_rfl
section
variable {X : Cx} {C fI : Addr}
/-- Err(e) -/
def tMkE (C : Addr) (ta : TA) : L2.St → Hp → XK → Prop := fun σ H Q => ta σ H fun vs H1 => ∃ v, vs = [v] ∧ ∀ d, H1 d = none → Q (.ref C) (some d) (upd H1 d (.xd [("value", v)]))
theorem pmk_err {a : Expr} {ta : TA} {x : Str} {p pos : Pos} {k : Nat} (T : ErrTxt X.prog X.K C fI) (hr : Room k X.A) (gC : X.mg x = some (.ref C)) (hsu : X.mg "super" = none) (ha : PA X [a] ta) (hg : Gl X x := by rfl) (hdb : (x == ("__debug__" : Str)) = false := by decide)
    (he : starEach (a :: []) X.env = (false, eval a X.env) :: starEach [] X.env := by rfl) (hpl : (backTo pos (starEach [] X.env)).any (·.1) = false := by rfl) :
    PMk X (.Call (.Name x p) [a] [] pos) (tMkE C ta) := by
  intro pins s σ H Q I h
  refine wpAny_Call_Name_kw (ld_glob I hg gC ?_ hdb)
  refine PySem.W.callWith_K (h₀ := X.base) I.ok.mod.kin T.kC (thn (ha.run pos pins s σ H _ I h) fun us s1 hh => ?_) he hpl
  obtain ⟨vs, H1, I1, r1, v, ev, q1⟩ := hh
  subst ev
  refine ⟨I1.kIn, ?_⟩
  cases r1 with
  | cons rv rn =>
    rename_i v' us'
    cases rn
    show wpAny _ _ (call (.ref C) [v']) _ _ _
    have hlim := I1.nolimit
    obtain ⟨mb, hb1, hb2⟩ := I1.mod.blt
    have hgl := I1.mod.glob.keeps I1.bk
    have hbl := hb1.keeps I1.bk
    obtain ⟨hp, g, dr, tk, os⟩ := s1
    refine wpAny_call (err_made T I1.kIn hlim hgl hbl hsu ((hb2 _ (by decide)).trans boot_super) (by have := hr.dp; omega) fun h' tk' e d M => ?_)
    show MkP X pins σ Q (.ref e) ⟨h', g, dr, tk', os⟩
    obtain ⟨oe, fv, hoe, hc, hd, hdat, h1⟩ := M.obj
    have hns := M.ns
    obtain ⟨G', g1, g2⟩ := restrict h' fun b => decide (b ≠ e)
    have gk : ∀ b, b ≠ e → G'.get? b = h'.get? b := fun b hb => g1 b (decide_eq_true hb)
    have ge : G'.get? e = none := g2 e (by simp)
    have old : ∀ b o, hp.get? b = some o → G'.get? b = some o := fun b o q => (gk b (Nat.ne_of_lt (Nat.lt_of_lt_of_le (Heap.lt_size q) M.new))).trans (M.keep b o q)
    have ob : ObjOk X.prog X.w (upd H1 d (.xd [(("value" : Str), v)])) G' d (.xd [(("value" : Str), v)]) :=
      ⟨_, hns.at (fun o q => (gk d M.dne).trans q), fun f => relO_val rv f⟩
    have J : Inv X pins σ (upd H1 d (.xd [(("value" : Str), v)])) ⟨G', g, dr, tk', os⟩ := I1.laid (t' := tk') old M.dbig ob
    refine ⟨e, oe, fv, ⟨G', g, dr, tk', os⟩, _, .ref C, some d, rfl, J, fun b o q => ?_, ge, hoe, ⟨hc, hd⟩, hdat, h1, ?_, rfl, I1.bare, raises_own T.exC T.tyC, q1 d (I1.hok.fresh M.dbig)⟩
    · by_cases hb : b = e
      · have q' : G'.get? b = some o := q
        rw [hb, ge] at q'; cases q'
      · exact (gk b hb).symm.trans q
    · rw [upd_ne (Ne.symm M.dne)]
      exact I1.hok.fresh M.new
end
section
variable {T : Tx} {X : Cx} {W : WX}
/-- raise Err(e) -/
def raiseS (c : Nat) (f : FE) : FS := fun ρ s => (f ρ s).bindS ρ fun v s1 => match v with
  | .d v => .exc (.exc c ["value"] [v]) ρ s1
  | _ => .stuck
theorem pfs_raise {a : Expr} {f : FE} {x : Str} {p pos pos2 : Pos} {k c : Nat} {C fI : Addr} (hc : X.calm = true) (E : ErrTxt X.prog X.K C fI) (hC : T.ct c = C) (hr : RoomG k X.A) (tk : Takes X W) (gC : X.mg x = some (.ref C)) (hsu : X.mg "super" = none) (ha : PF T X W a f) (hg : Gl X x := by rfl) (hdb : (x == ("__debug__" : Str)) = false := by decide)
    (he : starEach (a :: []) X.env = (false, eval a X.env) :: starEach [] X.env := by rfl) (hpl : (backTo pos (starEach [] X.env)).any (·.1) = false := by rfl) :
    PFS T X W (.Raise (some (.Call (.Name x p) [a] [] pos)) none pos2) (raiseS c f) :=
  PS.imp (ps_raise hc tk (pmk_err E hr.room gC hsu (pa_cons ha pa_nil he) hg hdb he hpl)) fun D st H ⟨w, ρ, s, e, q, p⟩ => rdE_mono (postS_bind e q p) fun u H1 ⟨w1, x, s1, l1, e1, x1, r1, p1⟩ => by
    refine ⟨u, rfl, fun d hd => ?_⟩
    split at p1
    · rename_i v
      obtain ⟨l2, r2⟩ := r1.laidG (o := .xd [("value", u)]) hd
      refine p1 _ (.ref C) (some d) st _ l2 ⟨c, ["value"], [v], [("value", u)], rfl, by rw [hC], .inr ⟨d, rfl, upd_same⟩, rfl, ?_⟩ (e1.mono l2) r2
      exact .one (RX.mono (x := .d v) l2 x1)
    · exact p1.elim
end
end FL

set_option Elab.async false
set_option linter.all false
set_option maxRecDepth 100000
set_option maxHeartbeats 400000
namespace FL
open PySem PySem.Spec PyProof.Rows L2
/-- an exception that stands in the heap is taken up among the objects that are followed -/
theorem inv_track {X : Cx} {pins : List (Addr × Obj)} {σ : L2.St} {H : Hp} {s : Shared} {a : Addr} {oe : Obj} {cls : Value} {d : Option Addr} {vs : Array Value} (I : Inv X pins σ H s) (h0 : X.s_0.heap.get? a = none) (ha : H a = none) (hl : a ≠ X.env.locals) (hp : ∀ p ∈ X.pn ++ pins, p.1 ≠ a)
    (he : s.heap.get? a = some oe) (hz : Zc cls d oe) (hd : oe.data = .fields vs) : Inv X pins σ (upd H a (ExA cls d a)) s := by
  have same : ∀ b o, H b = some o → upd H a (ExA cls d a) b = some o := fun b o e => by
    rw [upd_ne (fun z => by rw [z, ha] at e; cases e)]
    exact e
  refine ⟨I.ok, I.os, I.bare, ⟨I.base.keep, I.base.slot, fun b o hb hH hx => ?_, I.base.there, fun b xs q => same _ _ (I.base.tups b xs q), fun b o u q => same _ _ (I.base.frzs b o u q), fun b ps q => ?_⟩, I.loc, I.cell, ?_, fun x c hx => ?_, fun p hm => ?_, fun b o q => ?_, I.len⟩
  · have hb' : b ≠ a := fun z => by
      rw [z, h0] at hb
      cases hb
    rw [upd_ne hb']
    exact I.base.free b o hb hH hx
  · obtain ⟨more, k⟩ := I.base.tbls b ps q
    exact ⟨more, same _ _ k⟩
  · rw [upd_ne (Ne.symm hl)]
    exact I.free
  · have hc : c ≠ a := fun z => by
      obtain ⟨v, o, k1, k2⟩ := I.cell x c hx
      rw [z, he] at k1
      cases k1
      rw [hd] at k2
      cases k2
    rw [upd_ne hc]
    exact I.freeC x c hx
  · obtain ⟨k1, k2, k3⟩ := I.pin p hm
    refine ⟨k1, ?_, k3⟩
    rw [upd_ne (hp p hm)]
    exact k2
  · by_cases hb : b = a
    · subst hb
      rw [upd_same] at q
      cases q
      exact ⟨⟨oe, he, hz, vs, hd⟩, ⟨oe, he⟩, fun h1 h2 ⟨o1, q1, q2, q3⟩ k => ⟨o1, k _ q1, q2, q3⟩⟩
    · rw [upd_ne hb] at q
      exact (I.hok b o q).stay (fun _ _ _ z => z) (fun c q => same _ _ q) (fun c xs q => same _ _ q)
/-- try .. except C as n: suite; the exception is followed behind it -/
def wKeep (K : PySem.W.Frag) (c : Value) (i : Nat) (ts : Addr → Value → Option Addr → TS) (Wout : WX) (D : Ends) : WX := fun cls d σ H => ∃ b, PySem.W.exmOne K cls c = some b ∧
  (b = true → ∀ a, H a = none → ts a cls d { nx := fun σ' H' => D.nx (σ'.set i none) (upd H' a (ExA cls d a)), rt := fun v H' => D.rt v (upd H' a (ExA cls d a)), bk := fun σ' H' => D.bk (σ'.set i none) (upd H' a (ExA cls d a)), ct := fun σ' H' => D.ct (σ'.set i none) (upd H' a (ExA cls d a)) } (σ.set i (some (.ref a))) H) ∧ (b = false → Wout cls d σ H)
theorem ps_try_keep {X : Cx} {x n : Str} {c : Value} {i : Nat} {body suite : List Stmt} {b₀ : Stmt} {np pos pos' : Pos} {tb : WX → TS} {ts : Addr → Value → Option Addr → TS} {Wout : WX} (hs : X.stack = X.env :: X.outer) (hf : X.env.frame = some X.env.locals) (hex : X.ex = []) (hN : X.N.Nodup) (hi : X.N[i]? = some n) (hln : X.env.kindOf n = some .local)
    (hc : Names X x c) (tk : Takes X Wout) (hb : ∀ (W : WX) (pn : List (Addr × Obj)) (xe : Value → Shared → Prop), Takes (X.tr pn xe) W → PassesOwn (model X.prog X.w) X.A X.env xe → PSs (X.tr pn xe) body (tb W))
    (hsu : ∀ (a : Addr) (oe : Obj) (cls : Value) (d : Option Addr) (pn : List (Addr × Obj)), Zc cls d oe → (∃ vs, oe.data = .fields vs) → PSs (X.suite a ((a, oe) :: pn)) (b₀ :: suite) (ts a cls d)) :
    PS X (.Try body [.ExceptHandler (some (.Name x np)) (some n) (b₀ :: suite) pos'] [] [] pos) (fun D σ H => tb (wKeep X.K c i ts Wout D) D σ H) := ⟨fun pins s σ H D I h => by
  have ok := I.ok
  have hfr : X.A.frames = some (X.env :: X.outer) := by rw [ok.frames, hs]
  refine wpAny_Try_except (wpAny_mono ((hb (wKeep X.K c i ts Wout D) (X.pn ++ pins) (fun e s₁ => wpAny (model X.prog X.w) X.A (noteFrame e X.env) (fun _ s₂ => wpAny (model X.prog X.w) X.A (setFlight e none) (fun _ s₃ => wpAny (model X.prog X.w) X.A (handleBy e X.env [.ExceptHandler (some (.Name x np)) (some n) (b₀ :: suite) pos']) (SP X pins D) X.xe s₃) X.xe s₂) X.xe s₁) ?tk PassesOwn.looking).run [] s σ H D (I.toTry _) h) (fun f s1 hsp => ?_) (fun e s1 he => he))
  case tk =>
    rintro u s' ⟨a, B, sI, pins', σ', H', cls, d, rfl, J', nb, up, sky, na, os, ag, b, hb1, hyes, hno⟩
    have J := J'.ofTry ok
    have sky' : Sky B (X.env :: X.outer) a (Zc cls d) X.env.locals s'.heap := by
      have q := sky
      rw [show (X.tr (X.pn ++ pins) _).stack = X.stack from rfl, hs] at q
      exact q
    refine Sky.land Zc.steady hfr hf sky' fun h3 fl3 up3 => ?_
    have J3 := J.landed (s' := { heap := h3, gens := s'.gens, drawn := s'.drawn, toks := s'.toks, os := s'.os }) nb fl3.1 (up.trans up3) os ag
    obtain ⟨oe3, vs3, he3, hz3, hd3⟩ := fl3.there
    have nfr : a ∉ frs (X.env :: X.outer) := fun hm => by
      obtain ⟨_, o', e', hnf⟩ := fl3.2.2.1.mem hm
      rw [he3] at e'
      cases e'
      exact hnf vs3 hd3
    have nL : a ≠ X.env.locals := fun z => nfr (List.mem_filterMap.mpr ⟨X.env, List.mem_cons_self, by rw [hf, z]⟩)
    have nF : a ∉ X.fs := fun hm => by
      obtain ⟨e, he, q⟩ := List.mem_filterMap.mp hm
      exact nfr (List.mem_filterMap.mpr ⟨e, List.mem_cons_of_mem _ he, q⟩)
    -- the exception is younger than the frame
    have nI : sI.heap.get? a = none := by
      cases z : sI.heap.get? a with
      | none => rfl
      | some o =>
        have q := nb a o z (by rw [show (X.tr (X.pn ++ pins) _).stack = X.stack from rfl, hs]; exact nfr)
        rw [fl3.2.1] at q
        cases q
    have n0 : X.s_0.heap.get? a = none := by
      cases z : X.s_0.heap.get? a with
      | none => rfl
      | some o =>
        obtain ⟨o', q⟩ := J.base.there a o z (by rw [hex]; exact List.not_mem_nil)
        rw [nI] at q
        cases q
    have nP : ∀ p ∈ X.pn ++ pins, p.1 ≠ a := fun p hm z => by
      have q := (J.pin p hm).1
      rw [z, nI] at q
      cases q
    have S3 := J3.suite he3 hd3 na nL nF
    refine wpAny_handleBy_cons (codeAny_handlers_test ?_) (fun q => by cases q)
    have LT : PySem.W.Looks (model X.prog X.w) h3 (typeOf (.ref a)) cls := fun A Q E s k q => wpAny_typeOf_ref (k a oe3 he3) (by rw [hz3.1]; exact q)
    have LM := PySem.W.exm_one J3.kIn LT hb1
    have test : ∀ {Q : Value → Shared → Prop} {E : Value → Shared → Prop}, Q c { heap := h3, gens := s'.gens, drawn := s'.drawn, toks := s'.toks, os := s'.os } → wpAny (model X.prog X.w) (X.A.mark (some (.ref a))) (eval (.Name x np) X.env) Q E { heap := h3, gens := s'.gens, drawn := s'.drawn, toks := s'.toks, os := s'.os } := fun {Q E} q => by
      obtain ⟨hg, hdbg, hm | ⟨hm, hv, hnn⟩⟩ := hc
      · exact ld_glob S3 hg hm q hdbg
      · exact ld_blt S3 hg hm hv q hnn hdbg
    refine test (LM.here ?_)
    cases b with
    | false =>
      refine wpAny_handleBy_nil ?_
      obtain ⟨k1, k2, k3, oe, vs, t1, oT, ts', he, hz, hd, h1, hr⟩ := id fl3
      refine wpAny_bind (wpAny_field he hd h1 ?_)
      rw [if_neg (by simp)]
      refine wpAny_bind ?_
      rw [hf]
      exact HandSPX.setFlight_upZ fl3 fun h4 hh4 up4 => wpAny_throw (tk (.ref a) _ ⟨a, B, sI, pins, σ', H', cls, d, rfl, J, nb, (up.trans up3).trans up4, .inr (.inr (by rw [hs]; exact hh4)), na, os, ag, hno rfl⟩)
    | true =>
      refine codeAny_handlers_suite_as (HandSPX.lands_againZ fl3 fun h4 fl4 up4 => ?_)
      have J4 := J.landed (s' := { heap := h4, gens := s'.gens, drawn := s'.drawn, toks := s'.toks, os := s'.os }) nb fl4.1 ((up.trans up3).trans up4) os ag
      obtain ⟨oe4, vs4, he4, hz4, hd4⟩ := fl4.there
      have S4 := J4.suite he4 hd4 na nL nF
      refine store_ok (X := X.suite a ((a, oe4) :: (X.pn ++ pins))) (v := .ref a) S4 hN hi (.inl hln) rfl (fun s5 S5 => wpAny_mono ((hsu a oe4 cls d (X.pn ++ pins) hz4 ⟨vs4, hd4⟩).run [] s5 (σ'.set i (some (.ref a))) H' _ S5 (hyes rfl a na)) (fun f s6 hsp => ?_) (fun _ _ z => z.elim)) (.inr hln)
      have end_ : ∀ {σ6 : L2.St} {H6 : Hp} {Q : Unit → Shared → Prop} {E : Value → Shared → Prop}, Inv (X.suite a ((a, oe4) :: (X.pn ++ pins))) [] σ6 H6 s6 → (∀ s7, Inv X pins (σ6.set i none) (upd H6 a (ExA cls d a)) s7 → Q () s7) → wpAny (model X.prog X.w) X.A (do
          bindName X.env n Value.none
          unbindBehindTheSuite X.env n pos') Q E s6 := fun {σ6 H6 Q E} S6 hq => by
        have J6 := S6.unsuite ok
        obtain ⟨k1, k2, _⟩ := S6.pin (a, oe4) (List.mem_append_left _ List.mem_cons_self)
        exact gone_ok (inv_track J6 n0 k2 nL nP k1 hz4 hd4) hN hi hln hq
      cases f with
      | next =>
        obtain ⟨σ6, H6, S6, q6⟩ := hsp
        exact end_ S6 fun s7 J7 => ⟨_, _, J7, q6⟩
      | brk =>
        obtain ⟨σ6, H6, S6, q6⟩ := hsp
        exact end_ S6 fun s7 J7 => ⟨_, _, J7, q6⟩
      | cont =>
        obtain ⟨σ6, H6, S6, q6⟩ := hsp
        exact end_ S6 fun s7 J7 => ⟨_, _, J7, q6⟩
      | ret u =>
        obtain ⟨v6, σ6, H6, S6, r6, q6⟩ := hsp
        exact end_ S6 fun s7 J7 => ⟨v6, _, _, J7, r6, q6⟩
  cases f with
  | next =>
    obtain ⟨σ', H', J', q⟩ := hsp
    exact wpAny_execs_nil ⟨σ', H', J'.ofTry ok, q⟩
  | brk =>
    obtain ⟨σ', H', J', q⟩ := hsp
    exact ⟨σ', H', J'.ofTry ok, q⟩
  | cont =>
    obtain ⟨σ', H', J', q⟩ := hsp
    exact ⟨σ', H', J'.ofTry ok, q⟩
  | ret u =>
    obtain ⟨v, σ', H', J', r, q⟩ := hsp
    exact ⟨v, σ', H', J'.ofTry ok, r, q⟩⟩
section
variable {T : Tx} {X : Cx} {W : WX} {ex : Nat → Bool}
theorem upd_held {w : Wd} {s : Sto} {H : Hp} (r : RS T w s H) {a : Addr} (h : H a = none) (o : HO) : Le w { w with G := upd w.G a o } ∧ RS T { w with G := upd w.G a o } s (upd H a o) := r.laidG h o
theorem RE.setN {w : Wd} {ρ : Env'} {st : L2.St} {i : Nat} {v : Option V} (e : RE T w ρ st) : RE T w (ρ.set i none) (st.set i v) := by
  refine ⟨by simp [e.len], fun j y q => ?_⟩
  by_cases hj : i = j
  · subst hj
    have il : i < ρ.length := by
      have := (List.getElem?_eq_some_iff.mp q).1
      simpa using this
    rw [List.getElem?_set_self il] at q
    cases q
  · rw [List.getElem?_set_ne hj] at q ⊢
    exact e.at_ j y q
/-- try: body; except C as n: y = n -/
def tryKeepS (sub : Nat → Nat → Bool) (ex : Nat → Bool) (k i j : Nat) (b : FS) : FS := fun ρ s => match b ρ s with
  | .exc (.exc c ns vs) r s1 => if ex c = true ∧ i < r.length then (if sub c k = true then .nx ((((r.set i none).set j (some (.d (.exc c ns vs)))).set i none)) s1 else .exc (.exc c ns vs) r s1) else .stuck
  | .exc _ _ _ => .stuck
  | o => o
theorem pfs_tryKeep {x n y : Str} {k i j : Nat} {body : List Stmt} {np p1 p2 p3 pos pos' : Pos} {b : FS} (E : TxEx T ex) (hK : X.K = T.K) (hs : X.stack = X.env :: X.outer) (hf : X.env.frame = some X.env.locals) (hex : X.ex = []) (hfn : ∀ z, X.fn z = true) (tk : Takes X W) (hk : ex k = true) (hmc : X.mg x = some (.ref (T.ct k)))
    (hN : X.N.Nodup) (hb : ∀ (W' : WX) (pn : List (Addr × Obj)) (xe : Value → Shared → Prop), Takes (X.tr pn xe) W' → PassesOwn (model X.prog X.w) X.A X.env xe → PFSs T (X.tr pn xe) W' body b)
    (hi : X.N[i]? = some n := by rfl) (hj : X.N[j]? = some y := by rfl) (hij : i ≠ j := by decide) (hln : X.env.kindOf n = some .local := by rfl) (hly : X.env.scope.names.lookup y = some .local := by rfl) (hvn : Vis X.env.scope n := by exact .inl rfl) (hg : Gl X x := by rfl) (hdb : (x == ("__debug__" : Str)) = false := by decide) (hdn : (n == ("__debug__" : Str)) = false := by decide) (hdc : (n == ("__classdict__" : Str)) = false := by decide)
    (hsw : swapsWith (.Name n p2) (some (.Name y p1)) p3.line X.env = pure false := by rfl) :
    PFS T X W (.Try body [.ExceptHandler (some (.Name x np)) (some n) [.Assign [.Name y p1] (.Name n p2) p3] pos'] [] [] pos) (tryKeepS T.sub ex k i j b) := by
  refine PS.imp (ps_try_keep (tb := fun W' => rdS T W' b) (Wout := W) hs hf hex hN hi hln ⟨hg, hdb, .inl hmc⟩ tk hb (ts := fun a cls d => tAsg (tVar i) (gName j)) fun a oe cls d pn hz hd => pss_one (ps_set (X := X.suite a ((a, oe) :: pn)) (i := j) hN hj (.inl hly) (pe_var (X := X.suite a ((a, oe) :: pn)) hi hvn hdn hdc) hsw (.inl (hfn y)))) fun D st H ⟨w, ρ, s, e, q, p⟩ => ?_
  refine ⟨w, ρ, s, e, q, ?_⟩
  unfold tryKeepS at p
  revert p
  cases b ρ s with
  | nx r s1 => exact fun p => p
  | rt v s1 => exact fun p => p
  | bk r s1 => exact fun p => p
  | ct r s1 => exact fun p => p
  | stuck => exact fun p => p
  | exc x0 r s1 =>
    intro p w1 cls d st1 H1 l1 xe e1 r1
    obtain ⟨c, ns, xs, fs, rfl, rfl, h3, h4, h5⟩ := xe
    dsimp only at p
    split at p
    · rename_i hc
      refine ⟨T.sub c k, by rw [hK]; exact E.ma c k hc.1 hk, fun hb a ha => ?_, fun hb => ?_⟩
      · rw [if_pos hb] at p
        have il : i < st1.length := by
          rw [← e1.len]
          exact hc.2
        refine ⟨.ref a, by rw [List.getElem?_set_self il], ?_⟩
        obtain ⟨l2, r2⟩ := upd_held r1 ha (ExA (.ref (T.ct c)) d a)
        refine p _ _ _ (l1.trans l2) (RE.setN (RE.set (RE.setN (e1.mono l2)) j ?_)) r2
        show R T _ (.exc c ns xs) _
        unfold R
        refine ⟨a, d, fs, rfl, upd_same, ?_, h4, Rs.mono l2.g h5⟩
        rcases h3 with h3 | ⟨dd, h3, h6⟩
        · exact .inl h3
        · exact .inr ⟨dd, h3, l2.g _ _ h6⟩
      · rw [if_neg (by rw [hb]; exact Bool.false_ne_true)] at p
        exact p w1 _ _ st1 H1 l1 ⟨c, ns, xs, fs, rfl, rfl, h3, h4, h5⟩ e1 r1
    · exact p.elim
end
end FL

set_option Elab.async false
set_option linter.all false
set_option maxRecDepth 100000
set_option maxHeartbeats 400000
namespace FL
open PySem PySem.Spec PyProof.Rows L2
section
variable {T : Tx} {X : Cx} {W : WX} {ex : Nat → Bool}
/-! ### a held exception's field -/
def getN : List Str → List D → Str → Option D
  | n :: ns, v :: vs, f => if f = n then some v else getN ns vs f
  | _, _, _ => none
theorem getN_ok {G : Hp} {f : Str} : ∀ {ns : List Str} {xs : List D} {fs : List (Str × V)} {x : D}, fs.map (·.1) = ns → Rs T G xs (fs.map (·.2)) → getN ns xs f = some x → ∃ v, fs.lookup f = some v ∧ R T G x v
  | n :: ns, y :: ys, [], x, h1, _, _ => by cases h1
  | n :: ns, y :: ys, (m, u) :: fs, x, h1, h2, h3 => by
    have h1' : m = n ∧ fs.map (·.1) = ns := by simpa using h1
    obtain ⟨rfl, h1'⟩ := h1'
    unfold Rs at h2
    obtain ⟨v, r, e1, e2, e3⟩ := h2
    cases e1
    unfold getN at h3
    by_cases hf : f = m
    · rw [if_pos hf] at h3
      cases h3
      exact ⟨u, by simp [List.lookup, hf], e2⟩
    · rw [if_neg hf] at h3
      obtain ⟨v, k1, k2⟩ := getN_ok (ns := ns) h1' e3 h3
      have hf' : (f == m) = false := by simpa using hf
      exact ⟨v, by simp [List.lookup, hf', k1], k2⟩
  | [], _, _, _, _, _, h => by simp [getN] at h
  | _ :: _, [], _, _, _, _, h => by simp [getN] at h
def excF (ex : Nat → Bool) (n : Str) (f : FE) : FE := fun ρ s => (f ρ s).bind fun x s1 => match x with
  | .d (.exc c ns vs) => if ex c = true then (match getN ns vs n with | some v => .ok (.d v) s1 | none => .stuck) else .stuck
  | _ => .stuck
theorem pf_excF {e : Expr} {f : FE} {pos : Pos} (E : TxEx T ex) (hK : X.K = T.K) (he : PF T X W e f) (hb : attributeBase e "value" X.env (eval e X.env) = eval e X.env := by rfl) : PF T X W (.Attribute e "value" pos) (excF ex "value" f) := ⟨fun pins s σ H Q I h => by
  refine attr_of hb (thn (he.run pins s σ H (fun u H1 => ∃ (a C dd : Addr) (fs : List (Str × V)) (v : V), u = .ref a ∧ ExK T.K C ∧ H1 a = some (ExA (.ref C) (some dd) a) ∧ H1 dd = some (.xd fs) ∧ fs.lookup ("value" : Str) = some v ∧ Q v H1) I ?_) fun u s1 hh => ?_)
  · obtain ⟨w, ρ, s0, e0, q, p⟩ := h
    refine rdE_mono (postE_bind e0 q p) fun u H1 ⟨w1, x, s1, l1, e1, x1, r1, p1⟩ => ?_
    split at p1
    · rename_i c ns vs
      split at p1
      · rename_i hc
        split at p1
        · rename_i v hv
          have x1' : R T w1.G (.exc c ns vs) u := x1
          unfold R at x1'
          obtain ⟨a, d, fs, k1, k2, k3, k4, k5⟩ := x1'
          obtain ⟨v', hl, rv⟩ := getN_ok k4 k5 hv
          rcases k3 with ⟨_, k3⟩ | ⟨dd, k3, k6⟩
          · rw [k3] at hv
            simp [getN] at hv
          · subst k3
            exact ⟨a, _, dd, fs, v', k1, E.k c hc, r1.g _ _ k2, r1.g _ _ k6, hl, postE_ok p1 rv r1⟩
        · exact p1.elim
      · exact p1.elim
    · exact p1.elim
  · obtain ⟨x, H1, I1, rx, a, C, dd, fs, v, rfl, K, h1, h2, h3, q⟩ := hh
    obtain rfl : u = Value.ref a := rx
    obtain ⟨⟨oe, e1, ⟨e2, e3⟩, vs, e4⟩, _, _⟩ := (show (∃ (oe : Obj), s1.heap.get? a = some oe ∧ Zc (.ref C) (some dd) oe ∧ ∃ vs, oe.data = .fields vs) ∧ _ from I1.hok a _ h1)
    obtain ⟨mA, hns, hr⟩ := (show ∃ mA, s1.heap.Ns1 dd mA ∧ ∀ f : Str, RelO (List.lookup f fs) (mA f) from I1.hok dd _ h2)
    obtain ⟨od, ho, hl⟩ := lookIn_ns hns
    obtain ⟨u, hu, ru⟩ := RelO.some_of (v := v) (o := mA "value") (by rw [← h3]; exact hr "value")
    have J : PySem.W.InstAt s1.heap a oe C (some od) := ⟨e1, e2, by unfold PySem.W.notCls; rw [e4], by rw [e3]; exact ho⟩
    rw [← hK] at K
    exact HandSPX.exc_get I1.kIn J K.ga K.gg K.exC (PySem.W.findObj_own K.hdC K.noV rfl (by rw [hl, hu])) (handed_of ru) ⟨v, H1, I1.tok _, ru, q⟩⟩
/-! ### xs.append(e), xs[i] = e -/
def appF (f : FE) (g : FA) : FE := fun ρ s => (f ρ s).bind fun x s1 => match x with
  | .ref i => match s1[i]? with
    | some (.lst _) => (g ρ s1).bind fun ys s2 => match ys with
      | [.d y] => match s2[i]? with
        | some (.lst xs) => if xs.length < 1000000 then .ok (.d .non) (s2.set i (.lst (xs ++ [y]))) else .stuck
        | _ => .stuck
      | _ => .stuck
    | _ => .stuck
  | _ => .stuck
theorem pf_append {o e : Expr} {f : FE} {g : FA} {apos cpos : Pos} (hK : X.K = T.K) (ho : PF T X W o f) (ha : PFA T X W [e] g) (hb : attributeBase o "append" X.env (eval o X.env) = eval o X.env := by rfl)
    (h1 : ((((backTo cpos (starEach [e] X.env)).all fun x => !x.fst) && (backToKw cpos (keywordEach [] X.env)).all fun x => x.fst.isSome) && decide (([e].length + ([] : List Keyword).length + if ([] : List Keyword).isEmpty = true then 0 else 1) < 30)) = true := by rfl) (h2 : (apos.endLine == cpos.line) = true := by rfl)
    (h3 : starEach [e] X.env = (false, eval e X.env) :: starEach [] X.env := by rfl) (h4 : (backTo cpos (starEach [] X.env)).any (·.1) = false := by rfl) : PF T X W (.Call (.Attribute o "append" apos) [e] [] cpos) (appF f g) :=
  PE.imp (pe_bm PySem.F.plainAttrs_list PySem.F.slot_list_append PySem.F.type_list_append mt_append ho ha hb h1 h2 h3 h4) fun st H Q ⟨w, ρ, s, e0, q, p⟩ => rdE_mono (postE_bind e0 q p) fun u H1 ⟨w1, x, s1, l1, e1, x1, r1, p1⟩ => by
    split at p1
    · rename_i i
      split at p1
      · rename_i xs0 hs
        obtain ⟨a, k1, k2⟩ := x1
        subst k2
        obtain ⟨ho, m1, ⟨vs, m2, m3⟩, m4, m5⟩ := r1.live i _ a hs (by simp) k1
        subst m2
        refine ⟨.inl ⟨rfl, vs, .of m1⟩, rdA_mono (postE_bindL e1 r1 p1) fun us H2 ⟨w2, ys, s2, l2, e2, x2, r2, p2⟩ => ?_⟩
        split at p2
        · rename_i y
          split at p2
          · rename_i xs hs2
            split at p2
            · rename_i hl
              obtain ⟨v, rfl, x3⟩ := rxs1 x2
              have k3 := l2.at k1
              obtain ⟨ho2, n1, ⟨vs2, n2, n3⟩, n4, n5⟩ := r2.live i _ a hs2 (by simp) k3
              subst n2
              have x3' : R T w2.G y v := x3
              exact ⟨a, vs2, v, rfl, rfl, n1, by rw [← n3.length, sizeLine_eq]; omega, postE_ok p2 rX_non (r2.write hs2 (by simp) k3 ⟨_, rfl, n3.append (.one x3')⟩)⟩
            · exact p2.elim
          · exact p2.elim
        · exact p2.elim
      · exact p1.elim
    · exact p1.elim
def setIxS (fv fo fi : FE) : FS := fun ρ s => (fv ρ s).bindS ρ fun v s1 => (fo ρ s1).bindS ρ fun o s2 => (fi ρ s2).bindS ρ fun k s3 => match v with
  | .d v => match o with
    | .ref i => match k with
      | .d (.int k) => match s3[i]? with
        | some (.lst xs) => match ixN xs.length k with
          | some j => .nx ρ (s3.set i (.lst (xs.set j v)))
          | none => .stuck
        | _ => .stuck
      | _ => .stuck
    | _ => .stuck
  | _ => .stuck
theorem pfs_setIx {o ix e : Expr} {fv fo fi : FE} {p1 pos : Pos} (he : PF T X W e fv) (ho : PF T X W o fo) (hi : PF T X W ix fi)
    (ha : ∀ v, assign (.Subscript o ix p1) X.env v = (do
      let ov ← holding [v] (eval o X.env)
      let iv ← holding [v, ov] (eval ix X.env)
      standAt p1
      holding [v, ov, iv] (setItem ov iv v)
      release [v, ov, iv] []) := by exact fun _ => rfl)
    (hs : swapsWithSole [.Subscript o ix p1] e pos.line X.env = pure false := by rfl) (hw : swappedStores [.Subscript o ix p1] e X.env = pure none := by rfl) (h1 : (assignEach [.Subscript o ix p1] X.env).map (·.2) = [assign (.Subscript o ix p1) X.env] := by rfl) :
    PFS T X W (.Assign [.Subscript o ix p1] e pos) (setIxS fv fo fi) :=
  PS.imp (ps_asg he (pg_sub ho hi set_list ha) hs hw h1) fun D st H ⟨w, ρ, s, e0, q, p⟩ => rdE_mono (postS_bind e0 q p) fun u H1 ⟨w1, v, s1, l1, e1, x1, r1, p1⟩ =>
    rdE_mono (postS_bind e1 r1 p1) fun u2 H2 ⟨w2, o', s2, l2, e2, x2, r2, p2⟩ => rdE_mono (postS_bind e2 r2 p2) fun u3 H3 ⟨w3, k', s3, l3, e3, x3, r3, p3⟩ => by
      cases v with
      | ref _ => exact p3.elim
      | d v =>
        cases o' with
        | d _ => exact p3.elim
        | ref i =>
          dsimp only at p3
          split at p3
          · rename_i k
            split at p3
            · rename_i xs hs3
              split at p3
              · rename_i j hj
                obtain ⟨a, k1, k2⟩ := x2
                subst k2
                cases X_int x3
                have k3 := l3.at k1
                obtain ⟨ho2, n1, ⟨vs2, n2, n3⟩, n4, n5⟩ := r3.live i _ a hs3 (by simp) k3
                subst n2
                have x1' : R T w3.G v u := R.mono (l2.trans l3).g x1
                exact ⟨a, vs2, k, j, rfl, rfl, n1, by rw [← n3.length]; exact hj, p3 w3 st _ (.refl _) e3 (r3.write hs3 (by simp) k3 ⟨_, rfl, n3.set x1' j⟩)⟩
              · exact p3.elim
            · exact p3.elim
          · exact p3.elim
end
end FL

set_option Elab.async false
set_option linter.all false
set_option maxRecDepth 100000
set_option maxHeartbeats 400000
namespace FL
open PySem PySem.Spec PyProof.Rows L2
/-! ### calls by keywords -/
def permL {α : Type} (pm : List Nat) (xs : List α) : List α := pm.filterMap (xs[·]?)
theorem vals_perm {vs : List V} {us : List Value} (h : Vals vs us) : ∀ pm : List Nat, Vals (permL pm vs) (permL pm us)
  | [] => .nil
  | i :: pm => by
    have ih := vals_perm h pm
    have hl := h.length
    unfold permL at ih ⊢
    rw [List.filterMap_cons, List.filterMap_cons]
    cases e : vs[i]? with
    | none =>
      have e2 : us[i]? = none := by
        rw [List.getElem?_eq_none_iff] at e ⊢
        omega
      rw [e2]
      exact ih
    | some v =>
      obtain ⟨u, e2, r⟩ := Vals.get h e
      rw [e2]
      exact .cons r ih
section
variable {T : Tx}
theorem RXs.get {w : Wd} : ∀ {xs : List Xv} {vs : List V} {i : Nat} {x : Xv}, RXs T w xs vs → xs[i]? = some x → ∃ v, vs[i]? = some v ∧ RX T w x v
  | [], _, _, _, _, h => by simp at h
  | d :: ds, vs, 0, x, ⟨v, r, e1, e2, e3⟩, h => by
    subst e1
    simp at h
    subst h
    exact ⟨v, rfl, e2⟩
  | d :: ds, vs, i + 1, x, ⟨v, r, e1, e2, e3⟩, h => by
    subst e1
    obtain ⟨u, q1, q2⟩ := RXs.get (i := i) (x := x) e3 (by simpa using h)
    exact ⟨u, by simpa using q1, q2⟩
theorem rxs_perm {w : Wd} {xs : List Xv} {vs : List V} (h : RXs T w xs vs) : ∀ pm : List Nat, RXs T w (permL pm xs) (permL pm vs)
  | [] => rfl
  | i :: pm => by
    have ih := rxs_perm h pm
    have hl := h.length
    unfold permL at ih ⊢
    rw [List.filterMap_cons, List.filterMap_cons]
    cases e : xs[i]? with
    | none =>
      have e2 : vs[i]? = none := by
        rw [List.getElem?_eq_none_iff] at e ⊢
        omega
      rw [e2]
      exact ih
    | some v =>
      obtain ⟨u, e2, r⟩ := RXs.get h e
      rw [e2]
      exact .cons r ih
end
/-- how keywords are bound -/
structure KB (K : PySem.W.Frag) (fd : FuncData) (ps ks : List Str) (pm : List Nat) : Prop where
  to : ∀ (s : Shared) (ws : List Value), K.In s.heap → ws.length = ks.length → BindsTo s fd ⟨[], ks.zip ws⟩ (ps.zip (permL pm ws))
theorem kb_of {K : PySem.W.Frag} {x qual : Str} {params : Arguments} {body : List Stmt} {scope : Scope} {kws : List (Str × V)} {f : Addr} {fd : FuncData} {ps ks : List Str} {pm : List Nat} (F : FunD K x qual params body scope [] kws f fd)
    (h : ∀ (kV doc pm' : Value) (an : Option Addr) (cdv ct : Value) (ws : List Value), ws.length = ks.length → bindArgs (PySem.W.fnOf x qual params body scope .none kV doc pm' an cdv ct) ⟨[], ks.zip ws⟩ = pure (ps.zip (permL pm ws))) : KB K fd ps ks pm := by
  obtain ⟨oc, od, dV, kV, doc, pm', an, cdv, ct, osl, rfl, lk, hcd, hd, _⟩ := F.ex
  rcases hd with ⟨_, rfl⟩ | ⟨hd, _⟩
  · exact ⟨fun s ws _ hw => BindsTo.of_eq (h _ _ _ _ _ _ ws hw)⟩
  · exact absurd rfl hd
section
variable {T : Tx} {X : Cx} {W : WX}
abbrev PFK (T : Tx) (X : Cx) (W : WX) (kws : List Keyword) (g : FA) : Prop := PK X kws (rdA T W g)
theorem PK.imp {kws : List Keyword} {t t' : TA} (h : PK X kws t) (k : ∀ st H Q, t' st H Q → t st H Q) : PK X kws t' := ⟨fun pos pins s σ H Q I q => h.run pos pins s σ H Q I (k _ _ _ q)⟩
theorem pfk_nil : PFK T X W [] nilA := PK.imp pk_nil fun st H Q ⟨w, ρ, s, e, q, p⟩ => p w [] H (.refl _) rfl q
theorem pfk_cons {kpos : Pos} {e : Expr} {kws : List Keyword} {f : FE} {g : FA} {nm : Option Str} (ha : PF T X W e f) (hr : PFK T X W kws g) : PFK T X W (⟨nm, e, kpos⟩ :: kws) (consA f g) :=
  PK.imp (pk_cons ha hr) fun st H Q ⟨w, ρ, s, e, q, p⟩ => rdE_mono (postA_bind e q p) fun u H1 ⟨w1, x, s1, l1, e1, x1, r1, p1⟩ => rdA_mono (postA_bindL e1 r1 p1) fun us H2 ⟨w2, xs, s2, l2, e2, x2, r2, p2⟩ =>
    p2 w2 (u :: us) H2 (.refl _) (.cons (x1.mono l2) x2) r2
def callKF (m : Bool) (n k : Nat) (F : Fn) (pm : List Nat) (g : FA) : FE := fun ρ s => (g ρ s).bind fun xs s1 => if xs.length = k ∧ (permL pm xs).length = n then runC m F (permL pm xs) s1 else .stuck
theorem pf_callK0 {k : Nat} {f : Addr} {fd : FuncData} {ps ks : List Str} {F : Fn} {pm : List Nat} {x : Str} {p pos : Pos} {kws : List Keyword} {g : FA} (m : Bool)
    (G : FnG X.prog X.w X.K X.mg X.base k f fd ps (spF T ps.length F)) (hr : RoomG k X.A) (tk : Takes X W) (hm : X.mg x = some (.ref f)) (hk : PySem.W.keepIn X.K (.ref f) = true) (hb : KB X.K fd ps ks pm) (ha : PFK T X W kws g) (hg : Gl X x := by rfl) (hdb : (x == ("__debug__" : Str)) = false := by decide)
    (hall : ((backToKw pos (keywordEach kws X.env)).all fun x => x.fst.isSome) = true := by rfl) (hks : List.filterMap (fun x => x.fst) (backToKw pos (keywordEach kws X.env)) = ks := by rfl)
    (hpl : (((backTo pos (starEach [] X.env)).any fun x => x.fst) || (backToKw pos (keywordEach kws X.env)).any fun x => x.fst.isNone) = false := by rfl) :
    PF T X W (.Call (.Name x p) [] kws pos) (callKF m ps.length ks.length F pm g) := ⟨fun pins s σ H Q I h => by
  refine wpAny_Call_Name_kw (ld_glob I hg hm ?_ hdb)
  refine PySem.W.callWith_KW0 (h₀ := X.base) I.ok.mod.kin hk hall ?_ hpl
  obtain ⟨w, ρ, s0, e0, q0, p0⟩ := h
  refine thn (ha.run pos pins s σ H _ I (postE_bindL e0 q0 p0)) fun us s1 ⟨vs, H1, I1, r, w1, xs, s2, l1, e1, x1, r1, p1⟩ => ⟨I1.kIn, ?_⟩
  rw [hks]
  split at p1
  · rename_i hlen
    have hl := x1.length
    have hu : us.length = ks.length := by rw [← hlen.1, hl, r.length]
    have hsp := runC_ok (W := W) (st := σ) (n := ps.length) hlen.2 (rxs_perm x1 pm) r1 p1
    have ra : Vals (permL pm vs) (permL pm us) := vals_perm r pm
    refine wpAny_call (codeAny_mono (G.run X.A X.stack s1 H1 ⟨[], ks.zip us⟩ (permL pm us) (permL pm vs) Q (WE W σ) hr I1.env0 (hb.to s1 us I1.kIn hu) ra hsp) fun res s' hq => ?_)
    cases res with
    | error e => exact passAt tk σ pins H1 s1 e s' I1 hq
    | ok fl =>
      cases fl with
      | ret u => exact I1.after hq
      | next => exact (show False from hq).elim
      | brk => exact (show False from hq).elim
      | cont => exact (show False from hq).elim
  · exact p1.elim⟩
/-! ### repr -/
def rRepr (K : PySem.W.Frag) : RN := fun xs H Q => ∃ x d, xs = [x] ∧ Dp K H x d ∧ d.canLay0 = true ∧ d.showable = true ∧ d.depth ≤ 32 ∧ d.shown.length ≤ sizeLine ∧ Q (.str d.shown) H
theorem call_reprD (hgd : X.A.guards = some []) (hu : X.A.units + 64 < cLine) : CallR X (.builtin "repr") (rRepr X.K) := by
  rintro pins s σ H xs us Q I r ⟨x, d, rfl, dp, hcl, hsh, hdp, hln, q⟩
  cases r with
  | cons ra r =>
    cases r
    cases dp with
    | non =>
      have e : _ = Value.none := ra
      subst e
      refine PySem.P.repr_of_none ⟨.str PyData.none.shown, H, I.tok _, ⟨s.toks, ?_⟩, q⟩
      rw [PyData.shown.eq_1]
    | bl b =>
      have e : _ = Value.bool b := ra
      subst e
      refine PySem.P.repr_of_bool ⟨.str (PyData.bool b).shown, H, I.tok _, ⟨s.toks, ?_⟩, q⟩
      rw [PyData.shown.eq_2]
    | int i =>
      obtain ⟨t, rfl⟩ := ra
      rw [PyData.showable.eq_def] at hsh
      refine PySem.P.repr_of_int (by simpa using hsh) ⟨.str (PyData.int i).shown, H, I.tok _, ⟨s.toks, ?_⟩, q⟩
      rw [PyData.shown.eq_3]
    | str y =>
      obtain ⟨t, rfl⟩ := ra
      rw [PyData.shown.eq_4] at hln
      refine PySem.P.repr_of_str ⟨.str (PyData.str y).shown, H, I.tok _, ⟨s.toks, ?_⟩, q⟩ hln
      rw [PyData.shown.eq_4]
    | lst a1 a2 =>
      obtain ⟨as, rd⟩ := Dp.reads I _ _ _ (.lst a1 a2) ra
      have e : _ = Value.ref _ := ra
      subst e
      exact repr_of_reads' rd hsh (PyData.noDict_hsm (PyData.hasDict_of_canLay _ hcl)) hgd (by omega) (fun _ _ z => z) (fun h' u tk k => ⟨.str _, H, I.kept (t' := tk) k, ⟨_, rfl⟩, q⟩) hln
    | tup a1 a2 =>
      obtain ⟨as, rd⟩ := Dp.reads I _ _ _ (.tup a1 a2) ra
      have e : _ = Value.ref _ := ra
      subst e
      exact repr_of_reads' rd hsh (PyData.noDict_hsm (PyData.hasDict_of_canLay _ hcl)) hgd (by omega) (fun _ _ z => z) (fun h' u tk k => ⟨.str _, H, I.kept (t' := tk) k, ⟨_, rfl⟩, q⟩) hln
theorem repr_ok : OpN T W (rRepr T.K) reprX := by
  intro st w xs vs s H Q hx r p
  unfold reprX at p
  split at p
  · rename_i x
    split at p
    · rename_i a ha
      split at p
      · rename_i h
        rw [Bool.and_eq_true, Bool.and_eq_true, decide_eq_true_iff] at h
        obtain ⟨v, rfl, e⟩ := rxs1 hx
        have hf := flatS_ok h.1.1
        exact ⟨v, toP a, rfl, eqView_ok rfl r e ha h.1.1, hf.1, h.1.2, hf.2, h.2, postE_ok p rX_str r⟩
      · exact p.elim
    · exact p.elim
  · exact p.elim
end
end FL

set_option Elab.async false
set_option linter.all false
set_option maxRecDepth 100000
set_option maxHeartbeats 400000
namespace FL
open PySem PySem.Spec PyProof.Rows L2
/-! ### contexts by their parts -/
structure Qx where
  A : Around
  s0 : Shared
  H0 : Hp
  L : Addr
  glob : Addr
  cells : List (Str × Addr)
  qual : Str
  func : Option Addr
  code : Value
  bi : Addr
  outer : List Env
  pn : List (Addr × Obj)
  xe : Value → Shared → Prop
abbrev enX (sc : Scope) (q : Qx) : Env := { scope := sc, locals := q.L, globals := q.glob, cells := q.cells, qual := q.qual, func := q.func, code := q.code, frame := some q.L, builtins := q.bi }
abbrev mkX (P : Program) (w : World) (K : PySem.W.Frag) (mg : Str → Option Value) (base : Heap) (N : List Str) (sc : Scope) (q : Qx) : Cx :=
  { prog := P, w := w, K := K, mg := mg, base := base, A := q.A, N := N, s_0 := q.s0, H_0 := q.H0, env := enX sc q, outer := q.outer, stack := enX sc q :: q.outer, ex := [], fn := fun _ => true, calm := true, pn := q.pn, xe := q.xe }
section
variable {T : Tx} {P : Program} {w : World} {K : PySem.W.Frag} {mg : Str → Option Value} {base : Heap}
theorem fn_mk2 {k : Nat} {x qual : Str} {params : Arguments} {body : List Stmt} {scope : Scope} {dvs : List V} {kws : List (Str × V)} {f : Addr} {fd : FuncData} {N ps : List Str} {fs : FS}
    (F : FunD K x qual params body scope dvs kws f fd) (S : FnScope N ps scope)
    (h : ∀ (q : Qx) (W : WX), RoomG k q.A → Takes (mkX P w K mg base N scope q) W → PassesOwn (model P w) q.A (enX scope q) q.xe → PFSs T (mkX P w K mg base N scope q) W body fs) :
    FnG P w K mg base (k + 1) f fd ps (spF T ps.length (bodyF (N.length - ps.length) fs)) := by
  obtain ⟨oc, od, dV, kV, doc, pm, an, cdv, ct, osl, rfl, lk, hcd, _, _⟩ := F.ex
  refine fnG_of lk hcd S (fun vs H Q E ⟨w, ds, s, h1, h2, _⟩ => by rw [← h2.length]; exact h1) fun A outer s H vs Q E hr ⟨w0, ds, s0, h1, h2, h3, h4⟩ => ?_
  have hl := h2.length
  refine ⟨_, h ⟨A.deeper (envOfC qual scope s.heap.objs.size f cdv), s, H, (envOfC qual scope s.heap.objs.size f cdv).locals, (envOfC qual scope s.heap.objs.size f cdv).globals, (envOfC qual scope s.heap.objs.size f cdv).cells, (envOfC qual scope s.heap.objs.size f cdv).qual, (envOfC qual scope s.heap.objs.size f cdv).func, (envOfC qual scope s.heap.objs.size f cdv).code, (envOfC qual scope s.heap.objs.size f cdv).builtins, outer, [], (cxOf (L2.CX P w) P w K mg base N qual scope f cdv A outer s H E).xe⟩
    (fun cls d _ H => E cls d H) hr (takes_of rfl rfl rfl rfl) (passes_of (X := cxOf (L2.CX P w) P w K mg base N qual scope f cdv A outer s H E) rfl), ?_⟩
  refine ⟨w0, ds.map some ++ List.replicate (N.length - ps.length) none, s0, re_start h2 (by rw [← hl, h1]), h3, ?_⟩
  unfold bodyF at h4
  revert h4
  cases fs (ds.map some ++ List.replicate (N.length - ps.length) none) s0 with
  | nx r s' => exact fun p w' st H' l e1 e2 => p w' _ H' l rX_non e2
  | rt v s' => exact fun p w' u H' l e1 e2 => p w' u H' l e1 e2
  | exc e r s' => exact fun p w' cls d st H' l e1 _ e2 => p w' cls d H' l e1 e2
  | bk r s' => exact fun p => p.elim
  | ct r s' => exact fun p => p.elim
  | stuck => exact fun p => p.elim
/-- a def of the text -/
structure Def (T : Tx) (P : Program) (w : World) (K : PySem.W.Frag) (mg : Str → Option Value) (base : Heap) (k : Nat) (x : Str) (ps : List Str) (dv : List D) (F : Fn) : Prop where
  ex : ∃ f fd dvs ds, FnG P w K mg base k f fd ps (spF T ps.length F) ∧ mg x = some (.ref f) ∧ PySem.W.keepIn K (.ref f) = true ∧ Binds K fd ps ds ∧ Vals dvs ds ∧ ∀ G, Rs T G dv dvs
structure DefK (T : Tx) (P : Program) (w : World) (K : PySem.W.Frag) (mg : Str → Option Value) (base : Heap) (k : Nat) (x : Str) (ps ks : List Str) (pm : List Nat) (F : Fn) : Prop where
  ex : ∃ f fd, FnG P w K mg base k f fd ps (spF T ps.length F) ∧ mg x = some (.ref f) ∧ PySem.W.keepIn K (.ref f) = true ∧ KB K fd ps ks pm
end
/-- what rules ask of a context -/
structure Cn (T : Tx) (X : Cx) (W : WX) (k : Nat) : Prop where
  hK : X.K = T.K
  hr : RoomG k X.A
  tk : Takes X W
  calm : X.calm = true
  nd : X.N.Nodup
theorem Cn.blk {T : Tx} {X : Cx} {W : WX} {k : Nat} (C : Cn T X W k) (s : Shared) (H : Hp) (sc : Scope) (env : Env) (fp : List Addr) : Cn T (X.blk s H sc env fp) W0 k := ⟨C.hK, C.hr, takes0, C.calm, C.nd⟩
theorem Cn.un {T : Tx} {X : Cx} {W : WX} {k : Nat} (C : Cn T X W k) : X.A.units + 64 < cLine := by
  have := C.hr.room.un
  omega
section
variable {T : Tx} {X : Cx} {W : WX} {k : Nat}
theorem pf_callD {j : Nat} {ps : List Str} {F : Fn} {dv : List D} {x : Str} {p pos : Pos} {e : Expr} {es : List Expr} {g : FA} (m : Bool) (D : Def T X.prog X.w X.K X.mg X.base j x ps dv F) (C : Cn T X W k) (ha : PFA T X W (e :: es) g) (hgl : LenA g (e :: es).length) (hj : j ≤ k := by decide) (hl : (e :: es).length + dv.length = ps.length := by rfl)
    (hg : Gl X x := by rfl) (hdb : (x == ("__debug__" : Str)) = false := by decide) (he : starEach (e :: es) X.env = (false, eval e X.env) :: starEach es X.env := by rfl) (hpl : (backTo pos (starEach es X.env)).any (·.1) = false := by rfl) :
    PF T X W (.Call (.Name x p) (e :: es) [] pos) (callF m F dv g) := by
  obtain ⟨f, fd, dvs, ds, G, hm, hk, hb, hd, hv⟩ := D.ex
  exact pf_call m (G.mono hj) C.hr C.tk hm hk hb hd hv ha hl hg hdb he hpl hgl
theorem pf_callD0 {j : Nat} {ps : List Str} {F : Fn} {dv : List D} {x : Str} {p pos : Pos} (m : Bool) (D : Def T X.prog X.w X.K X.mg X.base j x ps dv F) (C : Cn T X W k) (hj : j ≤ k := by decide) (hl : dv.length = ps.length := by rfl)
    (hg : Gl X x := by rfl) (hdb : (x == ("__debug__" : Str)) = false := by decide) : PF T X W (.Call (.Name x p) [] [] pos) (callF m F dv nilA) := by
  obtain ⟨f, fd, dvs, ds, G, hm, hk, hb, hd, hv⟩ := D.ex
  exact pf_call0 m (G.mono hj) C.hr C.tk hm hk hb hd hv hl hg hdb
theorem pf_callDK {j : Nat} {ps ks : List Str} {pm : List Nat} {F : Fn} {x : Str} {p pos : Pos} {kws : List Keyword} {g : FA} (m : Bool) (D : DefK T X.prog X.w X.K X.mg X.base j x ps ks pm F) (C : Cn T X W k) (ha : PFK T X W kws g) (hj : j ≤ k := by decide) (hg : Gl X x := by rfl) (hdb : (x == ("__debug__" : Str)) = false := by decide)
    (hall : ((backToKw pos (keywordEach kws X.env)).all fun x => x.fst.isSome) = true := by rfl) (hks : List.filterMap (fun x => x.fst) (backToKw pos (keywordEach kws X.env)) = ks := by rfl)
    (hpl : (((backTo pos (starEach [] X.env)).any fun x => x.fst) || (backToKw pos (keywordEach kws X.env)).any fun x => x.fst.isNone) = false := by rfl) :
    PF T X W (.Call (.Name x p) [] kws pos) (callKF m ps.length ks.length F pm g) := by
  obtain ⟨f, fd, G, hm, hk, hb⟩ := D.ex
  exact pf_callK0 m (G.mono hj) C.hr C.tk hm hk hb ha hg hdb hall hks hpl
/-! ### a changing list becomes plain data -/
def frzO (j : Nat) (d : D) : Option Xv → Option Xv
  | some (.ref k) => if k = j then some (.d d) else some (.ref k)
  | o => o
def frzS (i : Nat) (a : FS) : FS := fun ρ s => match ρ[i]? with
  | some (some (.ref j)) => match s[j]? with
    | some (.lst xs) => a (ρ.map (frzO j (.lst xs))) (s.set j .dead)
    | _ => .stuck
  | some (some (.d _)) => a ρ s
  | _ => .stuck
theorem rs_freeze {w : Wd} {s : Sto} {H : Hp} {j : Nat} {a : Addr} {xs : List D} (r : RS T w s H) (e : s[j]? = some (.lst xs)) (ea : w.io[j]? = some a) : ∃ vs, Rs T w.G xs vs ∧ Le w { w with G := upd w.G a (.lst vs) } ∧ RS T { w with G := upd w.G a (.lst vs) } (s.set j .dead) H := by
  obtain ⟨ho, h1, ⟨vs, h2, h3⟩, h4, h5⟩ := r.live j _ a e (by simp) ea
  subst h2
  have sg : Same w.G (upd w.G a (.lst vs)) := fun b u q => by rw [upd_ne (ne_of_none q h4)]; exact q
  have back : ∀ {i : Nat} {u : O}, (s.set j .dead)[i]? = some u → u ≠ .dead → i ≠ j ∧ s[i]? = some u := fun {i u} q1 q2 => by
    by_cases hi : j = i
    · subst hi
      have il : j < s.length := (List.getElem?_eq_some_iff.mp e).1
      rw [List.getElem?_set_self il] at q1
      cases q1
      exact absurd rfl q2
    · rw [List.getElem?_set_ne hi] at q1
      exact ⟨fun z => hi z.symm, q1⟩
  refine ⟨vs, h3, ⟨sg, rfl, [], by simp⟩, ⟨fun b u q => ?_, r.z, fun b u q => ?_, by simp [r.len], fun i u b q1 q2 q3 => ?_, fun i k u v b q1 q2 q3 q4 q5 q6 => ?_⟩⟩
  · by_cases hb : b = a
    · subst hb
      have q' : upd w.G b (.lst vs) b = some u := q
      rw [upd_same] at q'
      rw [h1]
      exact q'
    · have q' : upd w.G a (.lst vs) b = some u := q
      rw [upd_ne hb] at q'
      exact r.g _ _ q'
  · have hb : b ≠ a := ne_of_none q h5
    show upd w.G a (.lst vs) b = none
    rw [upd_ne hb]
    exact r.gz _ _ q
  · obtain ⟨hi, q⟩ := back q1 q2
    have q3' : w.io[i]? = some b := q3
    obtain ⟨ho, k1, k2, k3, k4⟩ := r.live i u b q q2 q3'
    have hb : b ≠ a := fun z => hi (r.inj i j u _ a q q2 e (by simp) (by rw [← z]; exact q3') ea)
    exact ⟨ho, k1, RO.mono sg k2, by show upd w.G a (.lst vs) b = none; rw [upd_ne hb]; exact k3, k4⟩
  · exact r.inj i k u v b (back q1 q2).2 q2 (back q3 q4).2 q4 q5 q6
theorem pfs_frz (i : Nat) {st : List Stmt} {a : FS} (h : PFSs T X W st a) : PFSs T X W st (frzS i a) := PSs.imp h fun E σ H ⟨w, ρ, s, e, r, p⟩ => by
  unfold frzS at p
  split at p
  · rename_i j hj
    split at p
    · rename_i xs hs
      obtain ⟨u, e1, a0, e2, e3⟩ := e.at_ i _ hj
      obtain ⟨vs, k1, k2, k3⟩ := rs_freeze r hs e2
      refine ⟨_, _, _, ⟨by rw [List.length_map]; exact e.len, fun n y hy => ?_⟩, k3, PostS.mono k2 p⟩
      rw [List.getElem?_map] at hy
      cases q : ρ[n]? with
      | none => rw [q] at hy; cases hy
      | some o =>
        rw [q] at hy
        have hy' : frzO j (.lst xs) o = some y := by simpa using hy
        cases o with
        | none => cases hy'
        | some x =>
          obtain ⟨v, q1, q2⟩ := e.at_ n x q
          refine ⟨v, q1, ?_⟩
          cases x with
          | d x =>
            cases hy'
            exact RX.mono k2 q2
          | ref l =>
            unfold frzO at hy'
            dsimp only at hy'
            split at hy'
            · rename_i hl
              cases hy'
              subst hl
              obtain ⟨b, m1, m2⟩ := q2
              rw [e2] at m1
              cases m1
              show R T _ (.lst xs) v
              unfold R
              exact ⟨_, vs, m2, upd_same, Rs.mono k2.g k1⟩
            · cases hy'
              exact RX.mono k2 q2
    · exact p.elim
  · exact ⟨w, ρ, s, e, r, p⟩
  · exact p.elim
end
end FL

set_option Elab.async false
set_option linter.all false
set_option maxRecDepth 100000
set_option maxHeartbeats 400000
namespace FL
open PySem PySem.Spec PyProof.Rows L2
section
variable {T : Tx} {X : Cx} {W : WX} {k : Nat} {own ex : Nat → Bool}
/-! ### the rules of operators and built-ins, ready for use -/
theorem o_eq (C : Cn T X W k) : OpR X (compareOp .Eq) (rEqD T.K) := C.hK ▸ op_eqD C.un
theorem o_ne (C : Cn T X W k) : OpR X (compareOp .NotEq) (rNeD T.K) := C.hK ▸ op_neD C.un
theorem b_len (C : Cn T X W k) : CallR X (.builtin "len") (fun xs H Q => ∃ x n, xs = [x] ∧ LenV T.K x H n ∧ Q (.int n) H) := C.hK ▸ call_len
theorem b_sum (C : Cn T X W k) : CallR X (.builtin "sum") (rSum T.K) := C.hK ▸ cr_sum C.calm
theorem b_max (C : Cn T X W k) : CallR X (.builtin "max") (fun xs H Q => ∃ i j, xs = [.int i, .int j] ∧ Q (.int (if j > i then j else i)) H) := call_max2 C.calm
theorem b_min (C : Cn T X W k) : CallR X (.builtin "min") (fun xs H Q => ∃ i j, xs = [.int i, .int j] ∧ Q (.int (if j < i then j else i)) H) := call_min2 C.calm
theorem b_repr (C : Cn T X W k) : CallR X (.builtin "repr") (rRepr T.K) := C.hK ▸ call_reprD C.hr.gd C.un
theorem b_isi (C : Cn T X W k) : CallR X (.builtin "isinstance") (fun xs H Q => rIsEx T.K xs H Q ∨ rIsi T.K xs H Q) := C.hK ▸ callR_or call_isEx call_isi
theorem b_tuple (C : Cn T X W k) : CallR X (.type "tuple") (fun xs H Q => ∃ p ys, xs = [.ref p] ∧ ((SqL T.K H p ys ∧ ∀ l, H l = none → Q (.ref l) (upd H l (.tup ys))) ∨ (SqT T.K H p ys ∧ Q (.ref p) H))) := C.hK ▸ call_tuple_of
theorem b_list (C : Cn T X W k) : CallR X (.type "list") (fun xs H Q => ∃ p ys, xs = [.ref p] ∧ (SqL T.K H p ys ∨ SqT T.K H p ys) ∧ ∀ l, H l = none → Q (.ref l) (upd H l (.lst ys))) := C.hK ▸ call_list_of
theorem b_int (C : Cn T X W k) : CallR X (.type "int") (fun xs H Q => (∃ i, xs = [.int i] ∧ Q (.int i) H) ∨ ∃ k, xs = [.bl k] ∧ Q (.int (if k then 1 else 0)) H) := call_int1
end
theorem bt_len : bootBuiltins "len" = some (.builtin "len") := by first | rfl | decide +kernel | kernel_rfl
theorem bt_sum : bootBuiltins "sum" = some (.builtin "sum") := by first | rfl | decide +kernel | kernel_rfl
theorem bt_max : bootBuiltins "max" = some (.builtin "max") := by first | rfl | decide +kernel | kernel_rfl
theorem bt_min : bootBuiltins "min" = some (.builtin "min") := by first | rfl | decide +kernel | kernel_rfl
theorem bt_repr : bootBuiltins "repr" = some (.builtin "repr") := by first | rfl | decide +kernel | kernel_rfl
theorem bt_isinstance : bootBuiltins "isinstance" = some (.builtin "isinstance") := by first | rfl | decide +kernel | kernel_rfl
theorem bt_tuple : bootBuiltins "tuple" = some (.type "tuple") := by first | rfl | decide +kernel | kernel_rfl
theorem bt_list : bootBuiltins "list" = some (.type "list") := by first | rfl | decide +kernel | kernel_rfl
theorem bt_int : bootBuiltins "int" = some (.type "int") := by first | rfl | decide +kernel | kernel_rfl
theorem bt_bool : bootBuiltins "bool" = some (.type "bool") := by first | rfl | decide +kernel | kernel_rfl
theorem bt_str : bootBuiltins "str" = some (.type "str") := by first | rfl | decide +kernel | kernel_rfl
end FL

set_option Elab.async false
set_option linter.all false
set_option maxRecDepth 100000
set_option maxHeartbeats 1000000
namespace FL
open PySem PySem.Spec PyProof.Rows L2
/-- the law, called behind the top: what a function value that keeps FnG answers -/
theorem law_go {P : Program} {w : World} {K : PySem.W.Frag} {mg mb : Str → Option Value} {j : Nat} {lawA scr : Addr} {fd : FuncData} {p : Str} {promise : Sp} {sh : Shared} {items : List Value} {nums : List Int}
    (inK : K.In sh.heap) (gl : sh.heap.Ns mainGlobals mg) (bl : sh.heap.Ns builtinsNs mb) (boot : ∀ n : Str, n ≠ "__name__" → mb n = bootBuiltins n) (free : sh.heap.NoLimit) (calm : sh.gens = #[])
    (at_ : sh.heap.get? scr = some { cls := .type "list", data := .seq items.toArray }) (are : IntsAre items nums) (few : nums.length ≤ sizeLine) (rm : RoomG j callerA)
    (G : ∀ base : Heap, K.In base → base.Ns mainGlobals mg → FnG P w K mg base j lawA fd [p] promise) (bind : ∀ (s : Shared) (u : Value), BindsTo s fd ⟨[u], []⟩ [(p, u)])
    (keeps : ∀ Hh : Hp, Only Hh → SqL K Hh scr (nums.map V.int) → promise [.ref scr] Hh (fun v _ => v = .bl true) fun _ _ _ => False)
    (none_out : ∀ Hh e s', L2.CX P w [] Hh sh (fun _ _ _ => False) e s' → False) :
    codeAny (model P w) callerA (.call (.ref lawA) ⟨[.ref scr], []⟩) (fun out s' => out = .ok (.ret (.bool true)) ∧ OldK sh.heap s'.heap ∧ s'.os = sh.os ∧ AllBare s'.gens) sh := by
  have rel := vals_ints are
  have count := are.length
  have main : ∀ Hh : Hp, Only Hh → SqL K Hh scr (nums.map V.int) → HOk P w Hh sh.heap → (∀ b, Hh b ≠ none → b = scr) → (Hh scr ≠ none → K.lookup scr = none) →
      codeAny (model P w) callerA (.call (.ref lawA) ⟨[.ref scr], []⟩) (fun out s' => out = .ok (.ret (.bool true)) ∧ OldK sh.heap s'.heap ∧ s'.os = sh.os ∧ AllBare s'.gens) sh := by
    intro Hh only sq ok sole foreign
    have free_of : ∀ {b : Addr}, (Hh b ≠ none → False) → Hh b = none := fun {b} k => by
      cases q : Hh b with
      | none => rfl
      | some u => exact (k (by rw [q]; exact fun z => nomatch z)).elim
    have noDict : ∀ {b : Addr} {ob : Obj} {es : Array DictEntry} {ep : Nat}, sh.heap.get? b = some ob → ob.data = .dict es ep → Hh b = none := fun {b ob es ep} e dd => free_of fun z => by
      have eb := sole b z
      subst eb
      rw [at_] at e
      cases e
      exact nomatch (show Data.seq items.toArray _ = Data.dict es ep from dd)
    have ns_of : ∀ {b : Addr} {m : Str → Option Value}, sh.heap.Ns b m → (hidT sh.heap Hh).Ns b m := fun {b m} ⟨ob, es, ep, e, dd, r⟩ => ⟨ob, es, ep, hidT_get e (noDict e dd), dd, r⟩
    have kIn : K.In (hidT sh.heap Hh) := fun b ob e => hidT_get (inK b ob e) (free_of fun z => by
      have eb := sole b z
      subst eb
      rw [foreign z] at e
      cases e)
    have md : Mod K mg (hidT sh.heap Hh) := ⟨kIn, ns_of gl, ⟨mb, ns_of bl, boot⟩, free.elim fun mc z => ⟨mc, ns_of z.1, z.2⟩⟩
    have env : Env0 P w K mg (hidT sh.heap Hh) callerA [] sh Hh := ⟨rfl, md, fun b ob e => of_hidT e, Nat.le_of_eq (hidT_size _ _), trivial, fun b hb => (List.not_mem_nil (show b ∈ ([] : List Addr) from hb)).elim, ok, .of_eq calm⟩
    refine codeAny_mono ((G _ kIn (ns_of gl)).run callerA [] sh Hh ⟨[.ref scr], []⟩ [.ref scr] [.ref scr] _ _ rm env (bind sh (.ref scr)) (.cons rfl .nil) (keeps Hh only sq)) fun out s' fin => ?_
    match out, fin with
    | .error e, fin => exact (none_out Hh e s' fin).elim
    | .ok .next, fin => exact False.elim fin
    | .ok .brk, fin => exact False.elim fin
    | .ok .cont, fin => exact False.elim fin
    | .ok (.ret u), ⟨v, H2, os2, bare2, un, ok2, ru, q⟩ =>
      cases (show v = .bl true from q)
      obtain rfl : u = Value.bool true := ru
      refine ⟨rfl, OldK.of_keep fun b ob e => ?_, os2, bare2⟩
      rcases only b with z | ⟨o1, xs, z⟩
      · exact un.keep b ob e z (fun k => (List.not_mem_nil (show b ∈ ([] : List Addr) from k)).elim) (fun k => nomatch k)
      · obtain ⟨e1, _⟩ := ok b _ z
        obtain ⟨e2, _⟩ := ok2 b _ (un.frzs b o1 _ z)
        rw [e1] at e
        cases e
        exact e2
  cases inside : K.lookup scr with
  | some ob =>
    have e := inK scr ob inside
    rw [at_] at e
    cases e
    exact main (fun _ => none) (fun _ => .inl rfl) (.inr ⟨_, items.toArray, _, inside, rfl, rfl, rfl, by rw [List.size_toArray, count]; exact few, by simpa using rel⟩) (fun b u z => nomatch z) (fun b z => absurd rfl z) fun z => absurd rfl z
  | none =>
    have one : ∀ {b : Addr} {u : HO}, (if b = scr then some (HO.frz { cls := .type "list", data := .seq items.toArray } (.lst (nums.map V.int))) else none) = some u → b = scr := fun {b u} z => by
      by_cases hb : b = scr
      · exact hb
      · rw [if_neg hb] at z
        cases z
    refine main (fun b => if b = scr then some (.frz { cls := .type "list", data := .seq items.toArray } (.lst (nums.map V.int))) else none) (fun b => ?_) (.inl (.inr ⟨{ cls := .type "list", data := .seq items.toArray }, if_pos rfl⟩)) (fun b u z => ?_) (fun b z => ?_) fun _ => inside
    · by_cases hb : b = scr
      · exact .inr ⟨_, _, if_pos hb⟩
      · exact .inl (if_neg hb)
    · have hb := one z
      subst hb
      have z2 := (if_pos rfl).symm.trans z
      cases z2
      exact ⟨at_, by rw [List.length_map]; exact few, items, _, rel, at_⟩
    · by_cases hb : b = scr
      · exact hb
      · exact absurd (if_neg hb) z
/-- what a law says that answers True at each script -/
theorem law_says {T : Tx} {F : Fn} {K : PySem.W.Frag} (hK : T.K = K) (hF : ∀ ns : List Int, ∃ s, F [.d (.scr ns)] [] = .ok (.d (.bl true)) s) {Hh : Hp} {scr : Addr} {nums : List Int} (sq : SqL K Hh scr (nums.map V.int)) :
    spF T 1 F [.ref scr] Hh (fun v _ => v = .bl true) fun _ _ _ => False := by
  obtain ⟨s2, e⟩ := hF nums
  refine ⟨⟨Hh, fun _ => none, []⟩, [.d (.scr nums)], [], rfl, ⟨.ref scr, [], rfl, ?_, rfl⟩, ⟨Same.refl _, (fun a o z => nomatch z), (fun a o z => nomatch z), rfl, (fun i o a z => nomatch z), (fun i j o u a z => nomatch z)⟩, ?_⟩
  · show R T Hh (.scr nums) (.ref scr)
    unfold R
    exact ⟨scr, rfl, by rw [hK]; exact sq⟩
  · rw [e]
    exact fun w2 u H2 _ x _ => X_bl x
theorem no_cx {P : Program} {w : World} (Hh : Hp) (sh : Shared) (e : Value) (s' : Shared) (h : L2.CX P w [] Hh sh (fun _ _ _ => False) e s') : False := by
  obtain ⟨a, B, H2, cls, d, _, _, _, _, _, _, _, z⟩ := h
  exact z
theorem walk_go {l : PySem.W.OpenLaw} {n j : Nat} {q : Program} {loose : List Str} {XP : (Str → Option Value) → Heap → Prop} {YP : World → Heap → Prop} {d : DefRec} {K : Params → PySem.W.Frag} {p : Str} {F : Fn}
    (most : l.most = some n) (few : n ≤ sizeLine) (noDf : d.params.defaults = []) (rm : RoomG j callerA) (inK : ∀ (w : World) (h : Heap), YP w h → (K w.params).In h) (hF : ∀ ns : List Int, ∃ s, F [.d (.scr ns)] [] = .ok (.d (.bl true)) s)
    (all : ∀ (w : World) (mg : Str → Option Value) (lawA : Addr) (h : Heap), (K w.params).In h → h.Ns mainGlobals mg → mg d.name = some (.ref lawA) →
      ∃ (T : Tx) (fd : FuncData), T.K = K w.params ∧ (∀ (s : Shared) (u : Value), BindsTo s fd ⟨[u], []⟩ [(p, u)]) ∧ ∀ base : Heap, (K w.params).In base → base.Ns mainGlobals mg → FnG l.prog w (K w.params) mg base j lawA fd [p] (spF T 1 F)) :
    PySem.W.WalkO q loose XP YP l.row.toRowW d [] (fun f vs => PySem.call f vs) := by
  refine Att.attach_call most noDf fun w s0 sh mg mb lawA o pm cd doc scr items nums G Y ho hd hcd at1 at2 are len gens => ?_
  have kin := inK w _ Y
  obtain ⟨T, fd, hK, bind, Fn⟩ := all w mg lawA _ kin G.T.g at1
  exact law_go kin G.T.g G.T.b G.T.builtins G.T.nolimit gens at2 are (Nat.le_trans len few) rm Fn bind (fun Hh _ sq => law_says hK hF sq) fun Hh e s' => no_cx Hh sh e s'
end FL

set_option Elab.async false
set_option linter.all false
set_option maxRecDepth 100000
set_option maxHeartbeats 1000000
namespace FL
open PySem PySem.Spec PyProof.Rows L2
/-- a def of the text, as the file shows it -/
structure FnF (K : PySem.W.Frag) (x : Str) (st : Stmt) (f : Addr) : Prop where
  ns : PySem.W.nsIn K mainGlobals x = some (some (.ref f))
  fn : ∃ fd, FunD K x x (defArgs st) (defBody st) (defScope st) [] [] f fd
theorem fnF {K : PySem.W.Frag} {x : Str} {st : Stmt} {f : Addr} {oc : Value} {od : Option Addr} {kV doc pm : Value} {an : Option Addr} {cd ct : Value} {sl : Array (Option Value)} (a : PySem.W.nsIn K mainGlobals x = some (some (.ref f)))
    (l : K.lookup f = some ⟨oc, od, .func (PySem.W.fnOf x x (defArgs st) (defBody st) (defScope st) .none kV doc pm an cd ct), sl⟩) (c : PySem.W.codeIn K cd x = true) (k : PySem.W.keepIn K (.ref f) = true) : FnF K x st f :=
  ⟨a, _, ⟨oc, od, .none, kV, doc, pm, an, cd, ct, sl, rfl, l, c, .inl ⟨rfl, rfl⟩, .inl rfl⟩, k⟩
section
variable {T : Tx} {P : Program} {w : World} {K : PySem.W.Frag} {mg : Str → Option Value} {base : Heap}
theorem def_mk {k : Nat} {x : Str} {st : Stmt} {f : Addr} {N ps : List Str} {fs : FS} {F : Fn} (A : FnF K x st f) (mx : mg x = some (.ref f)) (S : FnScope N ps (defScope st)) (hF : bodyF (N.length - ps.length) fs = F)
    (hb : ∀ (kV doc pm : Value) (an : Option Addr) (cdv ct : Value) (us : List Value), us.length = ps.length → bindArgs (PySem.W.fnOf x x (defArgs st) (defBody st) (defScope st) .none kV doc pm an cdv ct) ⟨us, []⟩ = pure (ps.zip us))
    (h : ∀ (q : Qx) (W : WX), RoomG k q.A → Takes (mkX P w K mg base N (defScope st) q) W → PassesOwn (model P w) q.A (enX (defScope st) q) q.xe → PFSs T (mkX P w K mg base N (defScope st) q) W (defBody st) fs) :
    Def T P w K mg base (k + 1) x ps [] F := by
  obtain ⟨fd, D⟩ := A.fn
  subst hF
  exact ⟨f, fd, [], [], fn_mk2 D S h, mx, D.kp, D.bindsN hb, .nil, fun G => by unfold Rs; rfl⟩
theorem defK_mk {k : Nat} {x : Str} {st : Stmt} {f : Addr} {N ps ks : List Str} {pm : List Nat} {fs : FS} {F : Fn} (A : FnF K x st f) (mx : mg x = some (.ref f)) (S : FnScope N ps (defScope st)) (hF : bodyF (N.length - ps.length) fs = F)
    (hb : ∀ (kV doc pm' : Value) (an : Option Addr) (cdv ct : Value) (ws : List Value), ws.length = ks.length → bindArgs (PySem.W.fnOf x x (defArgs st) (defBody st) (defScope st) .none kV doc pm' an cdv ct) ⟨[], ks.zip ws⟩ = pure (ps.zip (permL pm ws)))
    (h : ∀ (q : Qx) (W : WX), RoomG k q.A → Takes (mkX P w K mg base N (defScope st) q) W → PassesOwn (model P w) q.A (enX (defScope st) q) q.xe → PFSs T (mkX P w K mg base N (defScope st) q) W (defBody st) fs) :
    DefK T P w K mg base (k + 1) x ps ks pm F := by
  obtain ⟨fd, D⟩ := A.fn
  subst hF
  exact ⟨f, fd, fn_mk2 D S h, mx, D.kp, kb_of D hb⟩
end
end FL

set_option Elab.async false
set_option linter.all false
set_option maxRecDepth 100000
set_option maxHeartbeats 1000000
namespace FL
open PySem PySem.Spec PyProof.Rows L2
/-! ### instances of the text's classes -/
section
variable {T : Tx} {X : Cx} {W : WX}
/-- C(..) runs -/
theorem run_makeG {k : Nat} {f C : Addr} {fd : FuncData} {ps : List Str} {sp : Sp} {dvs : List V} {ds : List Value} {E : XK} {pins : List (Addr × Obj)} {σ : L2.St} {H : Hp} {s : Shared} {Q : VK} {us : List Value} {vs : List V} (M : L2.Mk X.K C f)
    (F : FnG X.prog X.w X.K X.mg X.base k f fd ps sp) (hr : RoomG (k + 1) X.A) (hb : Binds X.K fd ps ds) (hd : Vals dvs ds) (hx : PassesAt (L2.CX X.prog X.w) X σ E) (I : Inv X pins σ H s) (r : Vals vs us)
    (h : ∀ x dx, H x = none → H dx = none → dx ≠ x → sp (.ref x :: (vs ++ dvs)) (upd (upd H dx (.own x)) x (.ins C dx [])) (fun v H2 => v = .non ∧ Q (.ref x) H2) E) :
    wpAny (model X.prog X.w) X.A (call (.ref C) us) (EP X pins σ Q) X.xe s := by
  have hq := h (s.heap.objs.size + 1) s.heap.objs.size (I.hok.fresh (Nat.le_succ _)) (I.hok.fresh (Nat.le_refl _)) (Nat.ne_of_lt (Nat.lt_succ_self _))
  have I2 := Inv.made (C := C) I
  have r2 : Vals (V.ref (s.heap.objs.size + 1) :: (vs ++ dvs)) (Value.ref (s.heap.objs.size + 1) :: (us ++ ds)) := .cons rfl (r.append hd)
  have hl : (Value.ref (s.heap.objs.size + 1) :: us ++ ds).length = ps.length := by
    have e := r2.length
    rw [F.len _ _ _ _ hq] at e
    exact e.symm
  have hrm : RoomG k (X.A.under (.builtin "type.__call__" ⟨.ref C :: us, []⟩)) := ⟨hr.room.make C us [], hr.gd⟩
  refine wpAny_call (make_map (f := f) I.kIn M.makes M.init (beq_iff_eq.mp M.fn) (codeAny_mono (F.run _ X.stack _ _ ⟨Value.ref (s.heap.objs.size + 1) :: us, []⟩ (Value.ref (s.heap.objs.size + 1) :: (us ++ ds)) _ _ E hrm
    (I2.env0.make C us []) (hb _ (Value.ref (s.heap.objs.size + 1) :: us) I2.kIn hl) r2 hq) fun r s' hq' => ?_))
  cases r with
  | error e => exact hx pins _ _ e s' I2 hq'
  | ok fl =>
    cases fl with
    | ret u =>
      obtain ⟨v, H', I3, rv, ev, q3⟩ := I2.after hq'
      subst ev
      exact ⟨rv, ⟨V.ref (s.heap.objs.size + 1), H', I3, rfl, q3⟩⟩
    | next => exact (show False from hq').elim
    | brk => exact (show False from hq').elim
    | cont => exact (show False from hq').elim
def tMakeG (C : Addr) (sp : Sp) (dvs : List V) (E : L2.St → XK) (t : TA) : TE := fun σ H Q => t σ H fun vs H1 => ∀ x dx, H1 x = none → H1 dx = none → dx ≠ x →
  sp (.ref x :: (vs ++ dvs)) (upd (upd H1 dx (.own x)) x (.ins C dx [])) (fun v H2 => v = .non ∧ Q (.ref x) H2) (E σ)
theorem pe_makeG {k : Nat} {f C : Addr} {fd : FuncData} {ps : List Str} {sp : Sp} {dvs : List V} {ds : List Value} {E : L2.St → XK} {x : Str} {p pos : Pos} {e : Expr} {es : List Expr} {t : TA} (M : L2.Mk X.K C f)
    (F : FnG X.prog X.w X.K X.mg X.base k f fd ps sp) (hr : RoomG (k + 1) X.A) (hg : Gl X x) (hm : X.mg x = some (.ref C)) (hb : Binds X.K fd ps ds) (hd : Vals dvs ds) (hx : ∀ σ, PassesAt (L2.CX X.prog X.w) X σ (E σ))
    (ha : PA X (e :: es) t) (hdb : (x == ("__debug__" : Str)) = false := by decide) (he : starEach (e :: es) X.env = (false, eval e X.env) :: starEach es X.env := by rfl) (hpl : (backTo pos (starEach es X.env)).any (·.1) = false := by rfl) :
    PE X (.Call (.Name x p) (e :: es) [] pos) (tMakeG C sp dvs E t) := ⟨fun pins s σ H Q I h =>
  wpAny_Call_Name_kw (ld_glob I hg hm (PySem.W.callWith_K (h₀ := X.base) I.ok.mod.kin M.kp (thn (ha.run pos pins s σ H _ I h) fun us s1 ⟨vs, H1, I1, r, q⟩ => ⟨I1.kIn, run_makeG M F hr hb hd (hx σ) I1 r q⟩) he hpl) hdb)⟩
/-- C(..) of plain values: the instance as it stands behind __init__, changing (m) or as plain data -/
def runM (m : Bool) (c : Nat) (F : Fn) (xs : List Xv) (s : Sto) : Res := match refsOf xs with
  | [] => match F (.ref 0 :: xs) [.ins c [] []] with
    | .ok (.d .non) s2 => match get0 s2 with | some o => mkO m o s | none => .stuck
    | .exc e _ => .exc e s
    | _ => .stuck
  | _ => .stuck
def makeF (m : Bool) (c : Nat) (F : Fn) (dv : List D) (g : FA) : FE := fun ρ s => (g ρ s).bind fun xs s1 => runM m c F (xs ++ dv.map .d) s1
theorem runM_ok {st : L2.St} {w : Wd} {m : Bool} {c : Nat} {F : Fn} {xs : List Xv} {vs : List V} {s : Sto} {H : Hp} {Q : VK} {n : Nat} (hn : xs.length + 1 = n) (x : RXs T w xs vs) (r : RS T w s H) (p : PostE T W st w (runM m c F xs s) Q)
    (a dx : Addr) (ha : H a = none) (hd : H dx = none) (hne : dx ≠ a) : spF T n F (.ref a :: vs) (upd (upd H dx (.own a)) a (.ins (T.ct c) dx [])) (fun v H2 => v = .non ∧ Q (.ref a) H2) (WE W st) := by
  unfold runM at p
  split at p
  · rename_i h0
    have up : Same H (upd (upd H dx (.own a)) a (.ins (T.ct c) dx [])) := fun b o q => by
      rw [upd_ne (ne_of_none q ha), upd_ne (ne_of_none q hd)]
      exact q
    have ga : w.G a = none := (r.fresh ha).1
    have hz : hold w s H none a = none := by
      cases q : hold w s H none a with
      | none => rfl
      | some o =>
        have := hold_same r a o q
        rw [ha] at this
        cases this
    refine ⟨{ w with io := [a], Z := hold w s H none }, .ref 0 :: xs, [.ins c [] []], by rw [List.length_cons]; exact hn, ⟨.ref a, vs, rfl, ⟨a, rfl, rfl⟩, rxs_pure (w := w) (w' := { w with io := [a], Z := hold w s H none }) rfl h0 x⟩,
      ⟨r.g.trans up, (hold_same r).trans up, fun a o h => hold_g r h, rfl, fun i o b e1 e2 e3 => ?_, fun i j o u b e1 _ e2 _ _ _ => ?_⟩, ?_⟩
    · have hi : i = 0 := by
        have := (List.getElem?_eq_some_iff.mp e1).1
        simp at this
        exact this
      subst hi
      have e1' : O.ins c [] [] = o := by simpa using e1
      have e3' : a = b := by
        have e3'' : [a][0]? = some b := e3
        simpa using e3''
      subst e1' e3'
      exact ⟨_, upd_same, ⟨dx, [], rfl, rfl, by show Rs T _ [] []; unfold Rs; rfl⟩, ga, hz⟩
    · have h1 := (List.getElem?_eq_some_iff.mp e1).1
      have h2 := (List.getElem?_eq_some_iff.mp e2).1
      simp at h1 h2
      rw [h1, h2]
    · have bk : ∀ {w' : Wd} {s' : Sto} {H' : Hp}, Le { w with io := [a], Z := hold w s H none } w' → RS T w' s' H' → Le w { w with G := w'.G } ∧ RS T { w with G := w'.G } s H' := fun {w' s' H'} l r' => by
        have zz : ∀ {b : Addr} {o : HO}, hold w s H none b = some o → H' b = some o ∧ w'.G b = none := fun {b o} h => by
          have e : w'.Z = hold w s H none := l.z
          exact ⟨r'.z _ _ (by rw [e]; exact h), r'.gz b o (by rw [e]; exact h)⟩
        refine ⟨⟨l.g, rfl, [], by simp⟩, ⟨r'.g, fun a o h => (zz (hold_z r h)).1, fun a o h => (zz (hold_z r h)).2, r.len, fun i o a e1 e2 e3 => ?_, r.inj⟩⟩
        obtain ⟨ho, h1, h2, h3, h4⟩ := r.live i o a e1 e2 e3
        have q := zz ((hold_lv (w := w) (s := s) (H := H) (b := none) ⟨i, o, e1, e2, e3⟩ (by intro z; cases z)).trans h1)
        exact ⟨ho, q.1, RO.mono l.g h2, q.2, h4⟩
      split at p
      · rename_i s2 hF
        rw [hF]
        split at p
        · rename_i o h2g
          obtain ⟨h2, hdd⟩ := get0_ok h2g
          intro w' u H' l rx r'
          obtain ⟨l2, r2⟩ := bk l r'
          have h0' : w'.io[0]? = some a := by
            obtain ⟨t, e⟩ := l.io
            rw [e]
            rfl
          refine ⟨X_non rx, ?_⟩
          obtain ⟨h', q1, q2, q3, q4, q5⟩ := new_of r l.z r' h2 hdd h0' (by intro z; cases z)
          exact join_new r2 q1 q2 q3 q4 q5 (PostE.mono l2 p)
        · exact p.elim
      · rename_i e s2 hF
        rw [hF]
        intro w' cls d H' l rx r'
        obtain ⟨l2, r2⟩ := bk l r'
        exact PostE.mono l2 p _ _ _ _ (.refl _) (rexc_g (w := w') rfl rx) r2
      · exact p.elim
  · exact p.elim
/-- a class that is made -/
structure DefM (T : Tx) (P : Program) (w : World) (K : PySem.W.Frag) (mg : Str → Option Value) (base : Heap) (k : Nat) (x : Str) (c : Nat) (ps : List Str) (dv : List D) (F : Fn) : Prop where
  ex : ∃ f fd dvs ds, FnG P w K mg base k f fd ps (spF T ps.length F) ∧ mg x = some (.ref (T.ct c)) ∧ L2.Mk K (T.ct c) f ∧ Binds K fd ps ds ∧ Vals dvs ds ∧ ∀ G, Rs T G dv dvs
theorem pf_make {j k : Nat} {c : Nat} {ps : List Str} {F : Fn} {dv : List D} {x : Str} {p pos : Pos} {e : Expr} {es : List Expr} {g : FA} (m : Bool) (Df : DefM T X.prog X.w X.K X.mg X.base j x c ps dv F) (C : Cn T X W k) (ha : PFA T X W (e :: es) g) (hgl : LenA g (e :: es).length) (hj : j + 1 ≤ k := by decide) (hl : (e :: es).length + dv.length + 1 = ps.length := by rfl)
    (hg : Gl X x := by rfl) (hdb : (x == ("__debug__" : Str)) = false := by decide) (he : starEach (e :: es) X.env = (false, eval e X.env) :: starEach es X.env := by rfl) (hpl : (backTo pos (starEach es X.env)).any (·.1) = false := by rfl) :
    PF T X W (.Call (.Name x p) (e :: es) [] pos) (makeF m c F dv g) := by
  obtain ⟨f, fd, dvs, ds, G, hm, M, hb, hd, hv⟩ := Df.ex
  refine PE.imp (pe_makeG (E := WE W) M G (C.hr.mono hj) hg hm hb hd (fun σ => passAt C.tk σ) ha hdb he hpl) fun st H Q ⟨w, ρ, s, e0, q, p0⟩ => ?_
  refine ⟨w, ρ, s, e0, q, ?_⟩
  have hq := hgl ρ s
  unfold makeF at p0
  revert p0 hq
  cases g ρ s with
  | exc a b => exact fun p _ => p
  | stuck => exact fun p _ => p
  | ok xs s1 =>
    intro p0 hq w1 us H1 l x1 r1 a dx ha hdx hne
    exact runM_ok (n := ps.length) (by rw [List.length_append, List.length_map, hq xs s1 rfl]; exact hl) (x1.append (rxs_of_rs (hv _))) r1 (PostE.mono l p0) a dx ha hdx hne

theorem RXs.consX {w : Wd} {x : Xv} {xs : List Xv} {v : V} {vs : List V} (h : RX T w x v) (k : RXs T w xs vs) : RXs T w (x :: xs) (v :: vs) := ⟨v, vs, rfl, h, k⟩
/-! ### methods -/
def tMethG (C : Addr) (m : Str) (sp : Sp) (dvs : List V) (E : L2.St → XK) (ta : TE) (t : TA) : TE := fun σ H Q => ta σ H fun x H1 => ∃ a dx fs, x = .ref a ∧ H1 a = some (.ins C dx fs) ∧ fs.lookup m = none ∧
  t σ H1 fun vs H2 => sp (x :: (vs ++ dvs)) H2 Q (E σ)
theorem pe_methG {k : Nat} {f C : Addr} {fd : FuncData} {ps : List Str} {sp : Sp} {dvs : List V} {ds : List Value} {E : L2.St → XK} {m : Str} {apos pos : Pos} {o e : Expr} {es : List Expr} {ta : TE} {t : TA} {pl : Sem Bool} (he : PE X o ta) (c : Cls X.K C) (hm : Meth X.K C m f)
    (F : FnG X.prog X.w X.K X.mg X.base k f fd ps sp) (hr : RoomG k X.A) (hb : Binds X.K fd ps ds) (hd : Vals dvs ds) (hx : ∀ σ, PassesAt (L2.CX X.prog X.w) X σ (E σ)) (ha : PA X (e :: es) t)
    (hst : starEach (e :: es) X.env = (false, eval e X.env) :: starEach es X.env := by rfl) (hpl : (backTo pos (starEach es X.env)).any (·.1) = false := by rfl)
    (ht : eval (.Call (.Attribute o m apos) (e :: es) [] pos) X.env = (do
      let ov ← eval o X.env
      standAt apos.atName
      let (f, first) ← holding [ov] (getMethod ov m pl)
      callWith pos f first (backTo pos (starEach (e :: es) X.env)) (backToKw pos (keywordEach [] X.env))) := by rfl) :
    PE X (.Call (.Attribute o m apos) (e :: es) [] pos) (tMethG C m sp dvs E ta t) := by
  refine ⟨fun pins s σ H Q I h => ?_⟩
  refine PySem.W.methodCall_KW (pl := pl) (thn (he.run pins s σ H _ I h) fun u s1 ⟨x, H1, I1, rx, a, dx, fs, ex, ea, l, q⟩ => ?_) ht
  subst ex
  obtain rfl : u = Value.ref a := rx
  refine getmeth_ok I1 ea c hm l ?_
  refine PySem.W.callWith_K (first := [.ref a]) (h₀ := X.base) I.ok.mod.kin hm.kp (thn (ha.run pos pins s1 σ H1 _ I1 q) fun us s2 ⟨vs, H2, I2, r, q2⟩ => ⟨I2.kIn, ?_⟩) hst hpl
  exact run_fnG (us := .ref a :: us) (vs := .ref a :: vs) F hr hb hd (hx σ) I2 (.cons rfl r) q2
theorem pe_methG0 {k : Nat} {f C : Addr} {fd : FuncData} {ps : List Str} {sp : Sp} {dvs : List V} {ds : List Value} {E : L2.St → XK} {m : Str} {apos pos : Pos} {o : Expr} {ta : TE} {pl : Sem Bool} (he : PE X o ta) (c : Cls X.K C) (hm : Meth X.K C m f)
    (F : FnG X.prog X.w X.K X.mg X.base k f fd ps sp) (hr : RoomG k X.A) (hb : Binds X.K fd ps ds) (hd : Vals dvs ds) (hx : ∀ σ, PassesAt (L2.CX X.prog X.w) X σ (E σ))
    (ht : eval (.Call (.Attribute o m apos) [] [] pos) X.env = (do
      let ov ← eval o X.env
      standAt apos.atName
      let (f, first) ← holding [ov] (getMethod ov m pl)
      callWith pos f first (backTo pos (starEach [] X.env)) (backToKw pos (keywordEach [] X.env))) := by rfl) :
    PE X (.Call (.Attribute o m apos) [] [] pos) (tMethG C m sp dvs E ta tNil) := by
  refine ⟨fun pins s σ H Q I h => ?_⟩
  refine PySem.W.methodCall_KW (pl := pl) (thn (he.run pins s σ H _ I h) fun u s1 ⟨x, H1, I1, rx, a, dx, fs, ex, ea, l, q⟩ => ?_) ht
  subst ex
  obtain rfl : u = Value.ref a := rx
  refine getmeth_ok I1 ea c hm l ?_
  exact PySem.W.callWith_K0 (first := [.ref a]) I1.kIn hm.kp (run_fnG (us := [.ref a]) (vs := [.ref a]) F hr hb hd (hx σ) I1 (.cons rfl .nil) q)
/-- an instance, plain or changing -/
def insV (x : Xv) (s : Sto) : Option (Nat × List Str × List D) := match x with
  | .d (.obj c ns vs) => some (c, ns, vs)
  | .ref i => match s[i]? with
    | some (.ins c ns vs) => some (c, ns, vs)
    | _ => none
  | _ => none
theorem insV_ok {w : Wd} {s : Sto} {H : Hp} {x : Xv} {u : V} {c : Nat} {ns : List Str} {xs : List D} (r : RS T w s H) (e : RX T w x u) (h : insV x s = some (c, ns, xs)) : ∃ a dx fs, u = .ref a ∧ H a = some (.ins (T.ct c) dx fs) ∧ fs.map (·.1) = ns ∧ Rs T w.G xs (fs.map (·.2)) := by
  unfold insV at h
  split at h
  · cases h
    have e' : R T w.G (.obj c ns xs) u := e
    unfold R at e'
    obtain ⟨a, dx, fs, e1, e2, e3, e4⟩ := e'
    exact ⟨a, dx, fs, e1, r.g _ _ e2, e3, e4⟩
  · rename_i i
    split at h
    · rename_i c' ns' vs' hs
      cases h
      obtain ⟨a, e1, e2⟩ := e
      obtain ⟨ho, h1, h2, _, _⟩ := r.live i _ a hs (fun z => nomatch z) e1
      obtain ⟨dx, fs, q1, q2, q3⟩ := h2
      subst q1
      exact ⟨a, dx, fs, e2, h1, q2, q3⟩
    · cases h
  · cases h
theorem lookup_none {f : Str} : ∀ {fs : List (Str × V)}, f ∉ fs.map (·.1) → fs.lookup f = none
  | [], _ => rfl
  | (g, v) :: fs, h => by
    have h' : ¬ (f = g ∨ f ∈ fs.map (·.1)) := by simpa using h
    have hb : (f == g) = false := by simpa using fun z => h' (.inl z)
    show List.lookup f ((g, v) :: fs) = none
    rw [List.lookup_cons, hb]
    exact lookup_none fun z => h' (.inr z)
/-- o.m(..) of an instance of the class c -/
def methF (r : Bool) (c : Nat) (m : Str) (F : Fn) (dv : List D) (f : FE) (g : FA) : FE := fun ρ s => (f ρ s).bind fun x s1 => match insV x s1 with
  | some (k, ns, _) => if k = c ∧ ns.contains m = false then (g ρ s1).bind fun xs s2 => runC r F (x :: (xs ++ dv.map .d)) s2 else .stuck
  | none => .stuck
structure DefO (T : Tx) (P : Program) (w : World) (K : PySem.W.Frag) (mg : Str → Option Value) (base : Heap) (k : Nat) (c : Nat) (m : Str) (ps : List Str) (dv : List D) (F : Fn) : Prop where
  ex : ∃ f fd dvs ds, FnG P w K mg base k f fd ps (spF T ps.length F) ∧ Cls K (T.ct c) ∧ Meth K (T.ct c) m f ∧ Binds K fd ps ds ∧ Vals dvs ds ∧ ∀ G, Rs T G dv dvs
theorem pf_meth {j k : Nat} {c : Nat} {m : Str} {ps : List Str} {F : Fn} {dv : List D} {apos pos : Pos} {o e : Expr} {es : List Expr} {f : FE} {g : FA} {pl : Sem Bool} (r : Bool) (Df : DefO T X.prog X.w X.K X.mg X.base j c m ps dv F) (C : Cn T X W k) (ho : PF T X W o f) (ha : PFA T X W (e :: es) g) (hgl : LenA g (e :: es).length) (hj : j ≤ k := by decide) (hl : (e :: es).length + dv.length + 1 = ps.length := by rfl)
    (hst : starEach (e :: es) X.env = (false, eval e X.env) :: starEach es X.env := by rfl) (hpl : (backTo pos (starEach es X.env)).any (·.1) = false := by rfl)
    (ht : eval (.Call (.Attribute o m apos) (e :: es) [] pos) X.env = (do
      let ov ← eval o X.env
      standAt apos.atName
      let (f, first) ← holding [ov] (getMethod ov m pl)
      callWith pos f first (backTo pos (starEach (e :: es) X.env)) (backToKw pos (keywordEach [] X.env))) := by rfl) :
    PF T X W (.Call (.Attribute o m apos) (e :: es) [] pos) (methF r c m F dv f g) := by
  obtain ⟨f', fd, dvs, ds, G, hc, hm, hb, hd, hv⟩ := Df.ex
  refine PE.imp (pe_methG (E := WE W) ho hc hm (G.mono hj) C.hr hb hd (fun σ => passAt C.tk σ) ha hst hpl ht) fun st H Q ⟨w, ρ, s, e0, q, p0⟩ => ?_
  refine rdE_mono (postE_bind e0 q p0) fun u H1 ⟨w1, x, s1, l1, e1, x1, r1, p1⟩ => ?_
  split at p1
  · rename_i k0 ns vs hi
    split at p1
    · rename_i hc2
      obtain ⟨rfl, hns⟩ := hc2
      obtain ⟨a, dx, fs, h1, h2, h3, h4⟩ := insV_ok r1 x1 hi
      subst h1
      refine ⟨a, dx, fs, rfl, h2, lookup_none fun z => ?_, ?_⟩
      · rw [h3] at z
        rw [List.contains_iff_mem.mpr z] at hns
        cases hns
      · refine ⟨w1, ρ, s1, e1, r1, ?_⟩
        have hq := hgl ρ s1
        revert p1 hq
        cases g ρ s1 with
        | exc a b => exact fun p _ => p
        | stuck => exact fun p _ => p
        | ok xs s2 =>
          intro p1 hq w2 us H2 l2 x2 r2
          exact runC_ok (n := ps.length) (by rw [List.length_cons, List.length_append, List.length_map, hq xs s2 rfl]; exact hl) (RXs.consX (x1.mono l2) (x2.append (rxs_of_rs (hv _)))) r2 (PostE.mono l2 p1)
    · exact p1.elim
  · exact p1.elim
theorem pf_meth0 {j k : Nat} {c : Nat} {m : Str} {ps : List Str} {F : Fn} {dv : List D} {apos pos : Pos} {o : Expr} {f : FE} {pl : Sem Bool} (r : Bool) (Df : DefO T X.prog X.w X.K X.mg X.base j c m ps dv F) (C : Cn T X W k) (ho : PF T X W o f) (hj : j ≤ k := by decide) (hl : dv.length + 1 = ps.length := by rfl)
    (ht : eval (.Call (.Attribute o m apos) [] [] pos) X.env = (do
      let ov ← eval o X.env
      standAt apos.atName
      let (f, first) ← holding [ov] (getMethod ov m pl)
      callWith pos f first (backTo pos (starEach [] X.env)) (backToKw pos (keywordEach [] X.env))) := by rfl) :
    PF T X W (.Call (.Attribute o m apos) [] [] pos) (methF r c m F dv f nilA) := by
  obtain ⟨f', fd, dvs, ds, G, hc, hm, hb, hd, hv⟩ := Df.ex
  refine PE.imp (pe_methG0 (E := WE W) ho hc hm (G.mono hj) C.hr hb hd (fun σ => passAt C.tk σ) ht) fun st H Q ⟨w, ρ, s, e0, q, p0⟩ => ?_
  refine rdE_mono (postE_bind e0 q p0) fun u H1 ⟨w1, x, s1, l1, e1, x1, r1, p1⟩ => ?_
  split at p1
  · rename_i k0 ns vs hi
    split at p1
    · rename_i hc2
      obtain ⟨rfl, hns⟩ := hc2
      obtain ⟨a, dx, fs, h1, h2, h3, h4⟩ := insV_ok r1 x1 hi
      subst h1
      refine ⟨a, dx, fs, rfl, h2, lookup_none fun z => ?_, ?_⟩
      · rw [h3] at z
        rw [List.contains_iff_mem.mpr z] at hns
        cases hns
      · exact runC_ok (n := ps.length) (by simpa using hl) (RXs.consX x1 (rxs_of_rs (hv _))) r1 p1
    · exact p1.elim
  · exact p1.elim

/-! ### fields -/
structure TxCl (T : Tx) (own : Nat → Bool) : Prop where
  c : ∀ c, own c = true → Cls T.K (T.ct c)
def fldF (own : Nat → Bool) (n : Str) (f : FE) : FE := fun ρ s => (f ρ s).bind fun x s1 => match insV x s1 with
  | some (c, ns, vs) => match getN ns vs n with
    | some d => if own c = true then .ok (.d d) s1 else .stuck
    | none => .stuck
  | none => .stuck
theorem pf_fld {own : Nat → Bool} {n : Str} {e : Expr} {f : FE} {pos : Pos} (O : TxCl T own) (hn : ∀ c, own c = true → NoAttr T.K (T.ct c) n) (hK : X.K = T.K) (he : PF T X W e f) (hb : attributeBase e n X.env (eval e X.env) = eval e X.env := by rfl) : PF T X W (.Attribute e n pos) (fldF own n f) := by
  refine PE.imp (pe_fld he hb) fun st H Q ⟨w, ρ, s, e0, q, p0⟩ => ?_
  refine rdE_mono (postE_bind e0 q p0) fun u H1 ⟨w1, x, s1, l1, e1, x1, r1, p1⟩ => ?_
  split at p1
  · rename_i c ns vs hi
    split at p1
    · rename_i d hg
      split at p1
      · rename_i hc
        obtain ⟨a, dx, fs, h1, h2, h3, h4⟩ := insV_ok r1 x1 hi
        obtain ⟨v, k1, k2⟩ := getN_ok h3 h4 hg
        exact ⟨a, _, dx, fs, v, h1, h2, by rw [hK]; exact O.c c hc, by rw [hK]; exact hn c hc, k1, postE_ok p1 k2 r1⟩
      · exact p1.elim
    · exact p1.elim
  · exact p1.elim
def putN : List Str → List D → Str → D → List Str × List D
  | [], _, n, d => ([n], [d])
  | g :: ns, [], n, d => (g :: ns, [])
  | g :: ns, x :: xs, n, d => if g = n then (g :: ns, d :: xs) else (g :: (putN ns xs n d).1, x :: (putN ns xs n d).2)
theorem putN_ok {G : Hp} {n : Str} {d : D} {v : V} (hv : R T G d v) : ∀ {ns : List Str} {xs : List D} {fs : List (Str × V)}, fs.map (·.1) = ns → Rs T G xs (fs.map (·.2)) → (putF n v fs).map (·.1) = (putN ns xs n d).1 ∧ Rs T G (putN ns xs n d).2 ((putF n v fs).map (·.2))
  | [], xs, [], _, h => by
    unfold putN putF
    exact ⟨rfl, .one hv⟩
  | [], xs, _ :: _, e, _ => by cases e
  | _ :: _, _, [], e, _ => by cases e
  | g :: ns, [], (g', v') :: fs, e, h => by
    unfold Rs at h
    cases h
  | g :: ns, x :: xs, (g', v') :: fs, e, h => by
    have e1 : g' = g := by
      have := List.cons.inj e
      exact this.1
    have e2 : fs.map (·.1) = ns := (List.cons.inj e).2
    subst e1
    have h' : ∃ u r, ((g', v') :: fs).map (·.2) = u :: r ∧ R T G x u ∧ Rs T G xs r := by
      have h0 := h
      unfold Rs at h0
      exact h0
    obtain ⟨u, r, k1, k2, k3⟩ := h'
    have k1' : v' = u ∧ fs.map (·.2) = r := List.cons.inj k1
    obtain ⟨rfl, rfl⟩ := k1'
    unfold putN putF
    by_cases hg : g' = n
    · rw [if_pos hg, if_pos hg]
      refine ⟨?_, .cons hv k3⟩
      show g' :: fs.map (·.1) = _
      rw [e2]
    · rw [if_neg hg, if_neg hg]
      obtain ⟨q1, q2⟩ := putN_ok hv (n := n) (fs := fs) e2 k3
      refine ⟨?_, .cons k2 q2⟩
      show g' :: (putF n v fs).map (·.1) = _
      rw [q1]
def setFldS (own : Nat → Bool) (n : Str) (fo fv : FE) : FS := fun ρ s => (fv ρ s).bindS ρ fun v s1 => (fo ρ s1).bindS ρ fun o s2 => match v, o with
  | .d d, .ref i => match s2[i]? with
    | some (.ins c ns vs) => if own c = true ∧ ns.length < 1000 then .nx ρ (s2.set i (.ins c (putN ns vs n d).1 (putN ns vs n d).2)) else .stuck
    | _ => .stuck
  | _, _ => .stuck
theorem pfs_setFld {own : Nat → Bool} {n : Str} {o e : Expr} {fo fv : FE} {p1 pos : Pos} (O : TxCl T own) (hn : ∀ c, own c = true → NoAttr T.K (T.ct c) n) (hK : X.K = T.K) (he : PF T X W e fv) (ho : PF T X W o fo) (hs : swapsWith e (some (.Attribute o n p1)) pos.line X.env = pure false := by rfl) :
    PFS T X W (.Assign [.Attribute o n p1] e pos) (setFldS own n fo fv) := by
  refine PS.imp (ps_fld ho he hs) fun D0 st H ⟨w, ρ, s, e0, q, p0⟩ => ?_
  refine rdE_mono (postS_bind e0 q p0) fun u H1 ⟨w1, v, s1, l1, e1, x1, r1, p1⟩ => ?_
  refine rdE_mono (postS_bind e1 r1 p1) fun u2 H2 ⟨w2, o2, s2, l2, e2, x2, r2, p2⟩ => ?_
  cases v with
  | ref _ => exact p2.elim
  | d d =>
    cases o2 with
    | d _ => exact p2.elim
    | ref i =>
      dsimp only at p2
      split at p2
      · rename_i c ns vs hs2
        split at p2
        · rename_i hc
          obtain ⟨a, k1, k2⟩ := x2
          obtain ⟨ho', h1, ⟨dx, fs, h2, h3, h4⟩, h5, h6⟩ := r2.live i _ a hs2 (fun z => nomatch z) k1
          subst h2
          have hv : R T w2.G d u := RX.mono (x := .d d) l2 x1
          obtain ⟨m1, m2⟩ := putN_ok (n := n) hv h3 h4
          refine ⟨a, _, dx, fs, k2, h1, by rw [hK]; exact O.c c hc.1, by rw [hK]; exact hn c hc.1, by have := hc.2; rw [← h3] at this; simpa using this, ?_⟩
          exact p2 _ _ _ (.refl _) e2 (r2.write hs2 (fun z => nomatch z) k1 ⟨dx, _, rfl, m1, m2⟩)
        · exact p2.elim
      · exact p2.elim
end
end FL

set_option Elab.async false
set_option linter.all false
set_option maxRecDepth 100000
set_option maxHeartbeats 1000000
namespace FLG
open PySem PySem.SeqAt
open AutoSeq1 (wpAny_loadPart')
open MeetsSeq MeetsSeq2 MeetsSeq3 SeqRoads2 GQ
section
variable {prog : Program} {w : World} {A : Around} {R : Result → Shared → Prop}
theorem ne_loopG (l b : Addr) (N : Nat) (I : Nat → Shared → Prop) (hl : ListI prog w A (fun e s' => R (.error e) s') l b N I)
    (fin : ∀ s, I N s → R (.ok (.ret (.bool false))) s) (k : Nat) :
    ∀ i : Nat, N - i = k → i ≤ N → ∀ s, I i s →
      wpAny (model prog w) A.in1 (Builtin.«list.__eq__.loop» ⟨[.ref l, .ref b, rawInt i, rawInt 3], []⟩) (FinOf prog w A R) (fun e s' => R (.error e) s') s := by
  induction k with
  | zero =>
    intro i hk hi s h
    obtain ⟨items, items2, n, n2, hl1, hb1, hs1, hs2, _⟩ := hl _ _ h
    have hi' : i = N := by omega
    have hR : R (.ok (.ret (.bool false))) s := fin s (hi' ▸ h)
    obtain ⟨hp, g, d, tk, os⟩ := s
    wp_walk using wpAny_loadPart' hl1, wpAny_loadPart' hb1
    have hi1 : items[((i : Nat) : Int).toNat]? = none := by simp; omega
    have hi2 : items2[((i : Nat) : Int).toNat]? = none := by simp; omega
    rw [hi1, hi2]
    wp_walk using wpAny_loadPart' hl1, wpAny_loadPart' hb1
    show R (.ok (.ret (.bool (items.size != items2.size)))) _
    rw [hs1, hs2]
    simpa using hR
  | succ k ih =>
    intro i hk hi s h
    obtain ⟨items, items2, n, n2, hl1, hb1, hs1, hs2, turn⟩ := hl _ _ h
    have hlt : i < items.size := by omega
    have hlt2 : i < items2.size := by omega
    have ht := turn hlt hlt2
    obtain ⟨hp, g, d, tk, os⟩ := s
    wp_walk using wpAny_loadPart' hl1, wpAny_loadPart' hb1
    have hi1 : items[((i : Nat) : Int).toNat]? = some items[i] := by simp [hlt]
    have hi2 : items2[((i : Nat) : Int).toNat]? = some items2[i] := by simp [hlt2]
    have hc : ((i : Int) + 1) = ((i + 1 : Nat) : Int) := by omega
    rw [hi1, hi2]
    refine wpAny_bind (wpAny_mono ht (fun r s2 h2 => ?_) fun _ _ x => x)
    obtain ⟨hr, h2⟩ := h2
    subst hr
    have hrec := ih (i + 1) (by omega) (by omega) s2 h2
    obtain ⟨hp2, g2, d2, tk2, os2⟩ := s2
    wp_walk
    rw [hc]
    exact ⟨plainId_quiet plain_eq_loop _, codeAny_builtin entry_eq_loop (by
      rw [Around.under_plainId plain_eq_loop _]
      exact hrec)⟩
theorem list_neG (l b : Addr) (N : Nat) (I : Nat → Shared → Prop) (hl : ListI prog w A (fun e s' => R (.error e) s') l b N I)
    (fin : ∀ s, I N s → R (.ok (.ret (.bool false))) s) {s : Shared} (h : I 0 s) :
    wpAny (model prog w) A.in1 (Builtin.«list.__ne__» ⟨[.ref l, .ref b], []⟩) (FinOf prog w A R) (fun e s' => R (.error e) s') s := by
  obtain ⟨items, items2, n, n2, hl1, hb1, hs1, hs2, _⟩ := hl _ _ h
  have hrec := ne_loopG (A := A) (R := R) l b N I hl fin _ 0 rfl (Nat.zero_le _) s h
  obtain ⟨hp, g, d, tk, os⟩ := s
  have f3 := AutoSeq1.sub_list_list
  have hne : ¬ (items.size != items2.size) = true := by simp [hs1, hs2]
  wp_walk using wpAny_loadPart' hl1, wpAny_loadPart' hb1
  exact ⟨plainId_quiet plain_eq_loop _, codeAny_builtin entry_eq_loop (by
    rw [Around.under_plainId plain_eq_loop _]
    exact hrec)⟩
end
section
variable {prog : Program} {w : World} {A : Around} {E : Value → Shared → Prop} {s : Shared}
theorem rc_list_neG {l b : Addr} {N : Nat} {Q : Value → Shared → Prop} (hu : A.units < cLine) (I : Nat → Shared → Prop) (hl : ListI prog w A E l b N I)
    (fin : ∀ s, I N s → Q (.bool false) s) (h : I 0 s) : wpAny (model prog w) A (richCompare .NotEq (.ref l) (.ref b)) Q E s := by
  obtain ⟨items, items2, n, n2, hl1, hb1, _, _, _⟩ := hl _ _ h
  refine wpAny_richCompare_same_room (op := .NotEq) ⟨_, hl1, rfl⟩ ⟨_, hb1, rfl⟩ F.slot_list_ne (call_here F.slot_list_ne ⟨_, hl1, rfl⟩ F.entry_list_ne (F.args_list_ne_2 _ _) ?_) hu
  exact list_neG (R := wants (fun v s' => v ≠ .notImplemented ∧ Q v s') E) l b N I hl (fun s' q => ⟨(fun x => nomatch x), fin s' q⟩) h
end
end FLG
namespace FL
open PySem PySem.Spec PyProof.Rows L2
/-! ### == by the text's own __eq__ -/
theorem no_cxF {P : Program} {w : World} {outer : List Env} {Hh : Hp} {sh : Shared} {e : Value} {s' : Shared} (h : L2.CX P w outer Hh sh (fun _ _ _ => False) e s') : False := by
  obtain ⟨a, B, H2, cls, d, _, _, _, _, _, _, _, z⟩ := h
  exact z
def rOwnEq (K : PySem.W.Frag) (C : Addr) (sp : Sp) : R2 := fun x y H Q => ∃ a dx fs tb, x = .ref a ∧ H a = some (.ins C dx fs) ∧ TyX K H y tb ∧ PySem.W.notFirst K C tb = true ∧ sp [x, y] H (fun v H' => ∃ b, v = .bl b ∧ Q (.bl b) H') (fun _ _ _ => False)
section
variable {X : Cx}
theorem op_ownEq {k : Nat} {f C : Addr} {fd : FuncData} {ps : List Str} {sp : Sp} (F : FnG X.prog X.w X.K X.mg X.base k f fd ps sp) (hr : RoomG k X.A) (hs : PySem.W.findIn X.K (.ref C) "__eq__" = some (some (.ref f))) (hf : PySem.W.isFn X.K (.ref f) = true) (hb : Binds X.K fd ps []) :
    OpR X (compareOp .Eq) (rOwnEq X.K C sp) := by
  intro pins s σ H x y v u Q I rx ry hq
  obtain ⟨a, dx, fs, tb, rfl, ha, ty, hn, q⟩ := hq
  cases rx
  show wpAny (model X.prog X.w) X.A (richCompare .Eq (.ref a) u) (EP X pins σ Q) X.xe s
  obtain ⟨mA, J, _⟩ := ins_get I.hok ha
  obtain ⟨od, J, _⟩ := J.look
  obtain ⟨m, hF⟩ := I.fr
  obtain ⟨Pu, KX, hP, _⟩ := kit_of I ry ty
  refine PySem.W.cmp_K (op := .Eq) (tb := tb) hr.room.units0 hF I.ok.mod.kin J (KX.ty _ _ I.kIn hP) hn hs hf ?_
  refine wpAny_mono (run_fnG (us := [.ref a, u]) (vs := [.ref a, y]) (dvs := []) (ds := []) (E := fun _ _ _ => False) (Q := fun v H' => ∃ b, v = .bl b ∧ Q (.bl b) H') F hr hb .nil (fun pins H s e s' I c => (no_cxF c).elim) I (.cons rfl (.cons ry .nil)) q) (fun r s' z => ?_) fun _ _ x => x
  obtain ⟨v, H', I', rv, b, rfl, q'⟩ := z
  cases rv
  exact ⟨.bl b, H', I', rfl, q'⟩
end
/-- what is known of the class c with its own == -/
structure TxEq (T : Tx) (P : Program) (w : World) (K : PySem.W.Frag) (mg : Str → Option Value) (base : Heap) (k : Nat) (c : Nat) (F : Fn) : Prop where
  ex : ∃ f fd ps, FnG P w K mg base k f fd ps (spF T 2 F) ∧ PySem.W.findIn K (.ref (T.ct c)) "__eq__" = some (some (.ref f)) ∧ PySem.W.isFn K (.ref f) = true ∧ Binds K fd ps []
  bi : ∀ t ∈ knownT, PySem.W.notFirst K (T.ct c) (.type t) = true
  ow : OwnC K (T.ct c)
def ansB : Res → Res
  | .ok (.d (.bl b)) s => okB b s
  | _ => .stuck
def okT (c : Nat) (y : Xv) (s : Sto) : Bool := match y with
  | .d (.obj k _ _) => k == c
  | y => (tyn y s).isSome
def eqOX (c : Nat) (F : Fn) (x y : Xv) (s : Sto) : Res := match x with
  | .d (.obj k _ _) => if k = c ∧ okT c y s = true then ansB (runC false F [x, y] s) else .stuck
  | x => eqX false x y s
section
variable {T : Tx} {X : Cx} {W : WX}
theorem okT_ok {w : Wd} {s : Sto} {H : Hp} {y : Xv} {v : V} {c k : Nat} {F : Fn} {P : Program} {w0 : World} {mg : Str → Option Value} {base : Heap} (E : TxEq T P w0 T.K mg base k c F) (r : RS T w s H) (e : RX T w y v) (h : okT c y s = true) : ∃ tb, TyX T.K H v tb ∧ PySem.W.notFirst T.K (T.ct c) tb = true := by
  unfold okT at h
  split at h
  · rename_i k' ns vs
    have hk : k' = c := by simpa using h
    subst hk
    exact ⟨_, obj_ty r E.ow e, by simp [PySem.W.notFirst]⟩
  · cases q : tyn y s with
    | none => rw [q] at h; cases h
    | some t => exact ⟨_, tyn_ok r e q, E.bi t (tyn_mem q)⟩
theorem eqO_ok {k c : Nat} {F : Fn} {P : Program} {w0 : World} {mg : Str → Option Value} {base : Heap} (E : TxEq T P w0 T.K mg base k c F) : Op2 T W (fun x y H Q => rOwnEq T.K (T.ct c) (spF T 2 F) x y H Q ∨ rEqD T.K x y H Q) (eqOX c F) := by
  intro st w x y u v s H Q hx hy r p
  unfold eqOX at p
  split at p
  · rename_i k' ns vs
    split at p
    · rename_i hc
      obtain ⟨rfl, hok⟩ := hc
      obtain ⟨tb, ty, hn⟩ := okT_ok E r hy hok
      have e' : R T w.G (.obj k' ns vs) u := hx
      unfold R at e'
      obtain ⟨a, dx, fs, e1, e2, _⟩ := e'
      refine .inl ⟨a, dx, fs, tb, e1, r.g _ _ e2, ty, hn, ?_⟩
      refine runC_ok (W := W0) (m := false) (st := st) (n := 2) (xs := [.d (.obj k' ns vs), y]) rfl (RXs.consX hx (RXs.consX hy rfl)) r ?_
      revert p
      cases runC false F [.d (.obj k' ns vs), y] s with
      | exc e s1 => exact fun p => p.elim
      | stuck => exact fun p => p.elim
      | ok z s1 =>
        intro p
        unfold ansB at p
        split at p
        · rename_i b s2 heq
          cases heq
          intro w' u' H' l rx r'
          exact ⟨b, X_bl rx, p w' _ H' l rX_bl r'⟩
        · exact p.elim
    · exact p.elim
  · rename_i x' _
    exact .inr (eq_ok st w _ y u v s H Q hx hy r p)
theorem eqOX_bl {c : Nat} {F : Fn} : Bl2 (eqOX c F) := fun x y s => by
  unfold eqOX
  split
  · split
    · rename_i hc
      cases runC false F [.d (.obj _ _ _), y] s with
      | exc e s1 => exact .inr rfl
      | stuck => exact .inr rfl
      | ok z s1 =>
        unfold ansB
        split
        · rename_i b s2 heq
          cases heq
          exact .inl ⟨b, _, rfl⟩
        · exact .inr rfl
    · exact .inr rfl
  · exact eqX_bl _ _ _
theorem o_eqO {k j c : Nat} {F : Fn} (E : TxEq T X.prog X.w X.K X.mg X.base j c F) (C : Cn T X W k) (hj : j ≤ k := by decide) : OpR X (compareOp .Eq) (fun x y H Q => rOwnEq T.K (T.ct c) (spF T 2 F) x y H Q ∨ rEqD T.K x y H Q) := by
  obtain ⟨f, fd, ps, G, h1, h2, h3⟩ := E.ex
  have q := op_ownEq (C := T.ct c) (G.mono hj) C.hr h1 h2 h3
  rw [C.hK] at q
  exact q.or (C.hK ▸ op_eqD C.un)

/-! ### lists with such instances in them, equal item by item -/
mutual
def beqD : D → D → Bool
  | .non, .non => true
  | .bl a, .bl b => a == b
  | .int a, .int b => a == b
  | .str a, .str b => a == b
  | .tup xs, .tup ys => beqDs xs ys
  | .lst xs, .lst ys => beqDs xs ys
  | .obj c ns vs, .obj c' ns' vs' => (c == c' && ns == ns') && beqDs vs vs'
  | _, _ => false
def beqDs : List D → List D → Bool
  | [], [] => true
  | x :: xs, y :: ys => beqD x y && beqDs xs ys
  | _, _ => false
end
mutual
theorem beqD_eq : ∀ {x y : D}, beqD x y = true → x = y := by
  intro x y h
  cases x <;> cases y <;> simp only [beqD, Bool.and_eq_true, beq_iff_eq, Bool.false_eq_true] at h <;> first | rfl | (cases h; rfl) | (rw [h]) | (rw [beqDs_eq h]) | (obtain ⟨⟨h1, h2⟩, h3⟩ := h; rw [h1, h2, beqDs_eq h3])
theorem beqDs_eq : ∀ {xs ys : List D}, beqDs xs ys = true → xs = ys := by
  intro xs ys h
  cases xs <;> cases ys <;> simp only [beqDs, Bool.and_eq_true, Bool.false_eq_true] at h <;> first | rfl | (obtain ⟨h1, h2⟩ := h; rw [beqD_eq h1, beqDs_eq h2])
end
end
section
variable {T : Tx} {X : Cx} {W : WX}
/-- == of two values that stand for the same data gives True -/
def EqN (T : Tx) (X : Cx) (n : Nat) (d : D) : Prop := ∀ (A : Around) (pins : List (Addr × Obj)) (s : Shared) (σ : L2.St) (H G : Hp) (x y : V) (u v : Value), RoomG n A → A.frames = X.A.frames → Inv X pins σ H s → RelV x u → RelV y v → Same G H → R T G d x → R T G d y →
  wpAny (model X.prog X.w) A (eqBool u v) (fun r s' => r = true ∧ ∃ H', Inv X pins σ H' s' ∧ Ext H H') X.xe s
theorem RoomG.in1 {n : Nat} {A : Around} (r : RoomG (n + 1) A) : RoomG n A.in1 := ⟨r.room.in1, r.gd⟩
theorem eqN_flat {d : D} {c : V} (hd : ∀ G v, R T G d v → v = c) (hf : flatV c = true) (he : eqV c c = true) {n : Nat} : EqN T X n d := by
  intro A pins s σ H G x y u v hr hA I rx ry sg hx hy
  cases hd _ _ hx
  cases hd _ _ hy
  have q := eqAt_V (A := A) (s := s) rx ry hf hf
  rw [he] at q
  exact q X.prog X.w X.xe _ ⟨rfl, H, I, Ext.rfl'⟩
theorem eqN_turn {n : Nat} {xs : List D} (h : ∀ d ∈ xs, EqN T X n d) {A : Around} (hr : RoomG (n + 1) A) (hA : A.frames = X.A.frames) {pins : List (Addr × Obj)} {σ : L2.St} {H G : Hp} {vs us : List V} {its its2 : List Value} (sg : Same G H) (p1 : Rs T G xs vs) (p2 : Rs T G xs us) (r : Vals vs its) (r2 : Vals us its2)
    (i : Nat) (h1 : i < its.toArray.size) (h2 : i < its2.toArray.size) (s' : Shared) (l : LoopI X pins σ H s') :
    wpAny (model X.prog X.w) A.in1 (eqBool its.toArray[i] its2.toArray[i]) (fun r s2 => r = true ∧ LoopI X pins σ H s2) X.xe s' := by
  obtain ⟨H1, I1, e1⟩ := l
  have g1 : its[i]? = some its.toArray[i] := by
    have h1' : i < its.length := by simpa using h1
    rw [List.getElem?_eq_getElem h1'] <;> simp
  have g2 : its2[i]? = some its2.toArray[i] := by
    have h2' : i < its2.length := by simpa using h2
    rw [List.getElem?_eq_getElem h2'] <;> simp
  have k1 : i < vs.length := by rw [r.length]; simpa using h1
  have k0 : i < xs.length := by rw [p1.length]; exact k1
  obtain ⟨x, hx, qx⟩ := Rs.get p1 (List.getElem?_eq_getElem k0)
  obtain ⟨y, hy, qy⟩ := Rs.get p2 (List.getElem?_eq_getElem k0)
  obtain ⟨u, hu, ru⟩ := r.get hx
  obtain ⟨v, hv, rv⟩ := r2.get hy
  rw [g1] at hu
  rw [g2] at hv
  rw [Option.some.inj hu, Option.some.inj hv]
  refine wpAny_mono (h _ (List.getElem_mem k0) A.in1 pins s' σ H1 G x y u v hr.in1 hA I1 ru rv (sg.trans e1) qx qy) (fun r s2 q => ?_) fun _ _ x => x
  obtain ⟨hr, H2, I2, e2⟩ := q
  exact ⟨hr, H2, I2, e1.trans e2⟩
/-- the two lists, at each turn -/
theorem listI {n : Nat} {xs : List D} (h : ∀ d ∈ xs, EqN T X n d) {A : Around} (hr : RoomG (n + 1) A) (hA : A.frames = X.A.frames) {pins : List (Addr × Obj)} {σ : L2.St} {H G : Hp} {a b : Addr} {vs us : List V} (sg : Same G H) (ha : G a = some (.lst vs)) (hb : G b = some (.lst us)) (p1 : Rs T G xs vs) (p2 : Rs T G xs us) :
    GQ.ListI X.prog X.w A X.xe a b xs.length fun _ s' => LoopI X pins σ H s' := by
  intro i s' q
  obtain ⟨H1, I1, e1⟩ := id q
  obtain ⟨z, its, k, r, e⟩ := I1.hok a _ (e1 _ _ (sg _ _ ha))
  obtain ⟨z2, its2, k2, r2, e2⟩ := I1.hok b _ (e1 _ _ (sg _ _ hb))
  refine ⟨its.toArray, its2.toArray, k, k2, e, e2, by rw [List.size_toArray, ← r.length, ← p1.length], by rw [List.size_toArray, ← r2.length, ← p2.length], fun h1 h2 => ?_⟩
  exact eqN_turn h hr hA sg p1 p2 r r2 i h1 h2 s' q
theorem eqN_lst {n : Nat} {xs : List D} (h : ∀ d ∈ xs, EqN T X n d) : EqN T X (n + 1) (.lst xs) := by
  intro A pins s σ H G x y u v hr hA I rx ry sg hx hy
  unfold R at hx hy
  obtain ⟨a, vs, rfl, h2, h3⟩ := hx
  obtain ⟨b, us, rfl, k2, k3⟩ := hy
  cases rx
  cases ry
  by_cases hab : a = b
  · subst hab
    exact SeqAt.EqAt.same (A := A) (s := s) (.ref a) X.prog X.w X.xe _ ⟨rfl, H, I, Ext.rfl'⟩
  · refine GQ.eqBool_refG hab (GQ.rc_listG hr.room.units0 (fun _ s' => LoopI X pins σ H s') (listI h hr hA sg h2 k2 h3 k3) (fun s' q => ⟨true, rfl, rfl, q⟩) ⟨H, I, Ext.rfl'⟩)
theorem eqN_tup (hK : X.K = T.K) {n : Nat} {xs : List D} (h : ∀ d ∈ xs, EqN T X n d) : EqN T X (n + 1) (.tup xs) := by
  intro A pins s σ H G x y u v hr hA I rx ry sg hx hy
  unfold R at hx hy
  obtain ⟨a, vs, rfl, h2, h3⟩ := hx
  obtain ⟨b, us, rfl, k2, k3⟩ := hy
  cases rx
  cases ry
  by_cases hab : a = b
  · subst hab
    exact SeqAt.EqAt.same (A := A) (s := s) (.ref a) X.prog X.w X.xe _ ⟨rfl, H, I, Ext.rfl'⟩
  · rw [← hK] at h2 k2
    obtain ⟨its, r, e, z⟩ := I.tuple (sqT_mono sg h2)
    obtain ⟨its2, r2, e2, z2⟩ := I.tuple (sqT_mono sg k2)
    have hsz : its.toArray.size = its2.toArray.size := by rw [List.size_toArray, List.size_toArray, ← r.length, ← r2.length, ← h3.length, ← k3.length]
    exact GQ.eqBool_refG hab (GQ.rc_tupG hsz hr.room.units0 (fun _ s' => LoopI X pins σ H s') e e2 (fun i h1 h2 s' q => eqN_turn h hr hA sg h3 k3 r r2 i h1 h2 s' q) (fun s' q => ⟨true, rfl, rfl, q⟩) ⟨H, I, Ext.rfl'⟩)
/-- an instance that its own == holds for equal to itself -/
def selfO (F : Fn) (d : D) : Bool := match F [.d d, .d d] [] with
  | .ok (.d (.bl true)) _ => true
  | _ => false
theorem eqN_obj {k c : Nat} {F : Fn} {ns : List Str} {xs : List D} (hK : X.K = T.K) (E : TxEq T X.prog X.w X.K X.mg X.base k c F) (hs : selfO F (.obj c ns xs) = true) {n : Nat} (hn : k ≤ n) : EqN T X n (.obj c ns xs) := by
  intro A pins s σ H G x y u v hr hA I rx ry sg hx hy
  obtain ⟨f, fd, ps, FG, q1, q2, q3⟩ := E.ex
  have hx' := hx
  have hy' := hy
  unfold R at hx' hy'
  obtain ⟨a, dx, fs, rfl, h2, h3, h4⟩ := hx'
  obtain ⟨b, dy, gs, rfl, k2, k3, k4⟩ := hy'
  cases rx
  cases ry
  by_cases hab : a = b
  · subst hab
    exact SeqAt.EqAt.same (A := A) (s := s) (.ref a) X.prog X.w X.xe _ ⟨rfl, H, I, Ext.rfl'⟩
  · obtain ⟨mA, J, _⟩ := ins_get I.hok (sg _ _ h2)
    obtain ⟨mB, J', _⟩ := ins_get I.hok (sg _ _ k2)
    obtain ⟨od, J, _⟩ := J.look
    obtain ⟨od', J', _⟩ := J'.look
    obtain ⟨m, hF⟩ := I.fr
    refine GQ.eqBool_refG hab (PySem.W.cmp_K (op := .Eq) (tb := .ref (T.ct c)) hr.room.units0 hF I.ok.mod.kin J J'.type (by simp [PySem.W.notFirst]) q1 q2 ?_)
    have e0 : Env0 X.prog X.w X.K X.mg X.base A X.stack s H := by
      have e := I.env0
      exact ⟨by rw [hA]; exact e.frames, e.mod, e.bs, e.bsz, e.funs, e.frf, e.hok, e.bare⟩
    let Z : Hp := fun a => if (G a).isSome = true then none else H a
    have hZ : Same Z H := fun a o h => by
      have h' : (if (G a).isSome = true then none else H a) = some o := h
      split at h'
      · cases h'
      · exact h'
    have r0 : RS T ⟨G, Z, []⟩ [] H := ⟨sg, hZ, fun a o h => by
      have h' : (if (G a).isSome = true then none else H a) = some o := h
      split at h'
      · cases h'
      · rename_i hn
        cases z : G a with
        | none => exact z
        | some u => rw [z] at hn; simp at hn, rfl, fun i o a e => by simp at e, fun i j o u a e => by simp at e⟩
    have hsp : spF T 2 F [.ref a, .ref b] H (fun v H' => v = .bl true ∧ Ext H H') (fun _ _ _ => False) := by
      refine ⟨⟨G, Z, []⟩, [.d (.obj c ns xs), .d (.obj c ns xs)], [], rfl, RXs.consX (x := .d (.obj c ns xs)) hx (RXs.consX (x := .d (.obj c ns xs)) hy rfl), r0, ?_⟩
      unfold selfO at hs
      split at hs
      · rename_i s2 hF
        rw [hF]
        intro w' u H' l rx r'
        refine ⟨X_bl rx, fun a o h => ?_⟩
        by_cases hg : (G a).isSome = true
        · obtain ⟨o', ho'⟩ := Option.isSome_iff_exists.mp hg
          have := sg _ _ ho'
          rw [h] at this
          cases this
          exact r'.g _ _ (l.g _ _ ho')
        · refine r'.z _ _ ?_
          rw [l.z]
          show (if (G a).isSome = true then none else H a) = some o
          rw [if_neg hg]
          exact h
      · cases hs
    have hl : ps.length = 2 := (FG.len _ _ _ _ hsp).symm
    have r2 : Vals [V.ref a, V.ref b] [Value.ref a, Value.ref b] := .cons rfl (.cons rfl .nil)
    refine wpAny_call (codeAny_mono (FG.run A X.stack s H ⟨[.ref a, .ref b], []⟩ [.ref a, .ref b] [.ref a, .ref b] _ _ (hr.mono hn) e0 (by
      have := q3 s [.ref a, .ref b] I.kIn (by simpa using hl.symm)
      simpa using this) r2 hsp) fun r s' hq => ?_)
    cases r with
    | error e => exact (no_cxF hq).elim
    | ok fl =>
      cases fl with
      | ret w =>
        obtain ⟨z, H', I', rz, ez, ex⟩ := I.after hq
        subst ez
        cases rz
        exact ⟨true, rfl, rfl, H', I', ex⟩
      | next => exact False.elim hq
      | brk => exact False.elim hq
      | cont => exact False.elim hq
def goodS (c : Nat) (F : Fn) : Nat → D → Bool
  | _, .non => true
  | _, .bl _ => true
  | _, .int _ => true
  | _, .str _ => true
  | n + 1, .tup xs => xs.all (goodS c F n)
  | n + 1, .lst xs => xs.all (goodS c F n)
  | _, .obj k ns vs => k == c && selfO F (.obj k ns vs)
  | _, _ => false
theorem eqN_good {k c : Nat} {F : Fn} (hK : X.K = T.K) (E : TxEq T X.prog X.w X.K X.mg X.base k c F) : ∀ {n : Nat} {d : D}, goodS c F n d = true → EqN T X (k + n) d
  | n, .non, _ => eqN_flat (c := .non) (fun G v h => R_non h) rfl rfl
  | n, .bl b, _ => eqN_flat (c := .bl b) (fun G v h => R_bl h) rfl (by cases b <;> rfl)
  | n, .int i, _ => eqN_flat (c := .int i) (fun G v h => R_int h) rfl (by simp [eqV])
  | n, .str x, _ => eqN_flat (c := .str x) (fun G v h => R_str h) rfl (by simp [eqV])
  | n + 1, .tup xs, h => eqN_tup hK fun d hd => eqN_good hK E (List.all_eq_true.mp (by unfold goodS at h; exact h) d hd)
  | n + 1, .lst xs, h => eqN_lst fun d hd => eqN_good hK E (List.all_eq_true.mp (by unfold goodS at h; exact h) d hd)
  | n, .obj k' ns vs, h => by
    have h' : (k' == c && selfO F (.obj k' ns vs)) = true := by
      cases n <;> exact h
    rw [Bool.and_eq_true] at h'
    have hk : k' = c := by simpa using h'.1
    subst hk
    exact eqN_obj hK E h'.2 (Nat.le_add_right _ _)
  | 0, .tup xs, h => by cases h
  | 0, .lst xs, h => by cases h
  | n, .ty _, h => by cases n <;> cases h
  | n, .adr _, h => by cases n <;> cases h
  | n, .scr _, h => by cases n <;> cases h
  | n, .cls _, h => by cases n <;> cases h
  | n, .exc _ _ _, h => by cases n <;> cases h
def rNeSame (T : Tx) (c : Nat) (F : Fn) : R2 := fun x y H Q => ∃ G xs, Same G H ∧ xs.all (goodS c F 5) = true ∧ R T G (.lst xs) x ∧ R T G (.lst xs) y ∧ ∀ H', Ext H H' → Q (.bl false) H'
theorem op_neSame {k c : Nat} {F : Fn} (hK : X.K = T.K) (E : TxEq T X.prog X.w X.K X.mg X.base k c F) (hr : RoomG (k + 6) X.A) : OpR X (compareOp .NotEq) (rNeSame T c F) := by
  intro pins s σ H x y u v Q I rx ry hq
  obtain ⟨G, xs, sg, hg, hx, hy, q⟩ := hq
  show wpAny (model X.prog X.w) X.A (richCompare .NotEq u v) (EP X pins σ Q) X.xe s
  unfold R at hx hy
  obtain ⟨a, vs, rfl, h2, h3⟩ := hx
  obtain ⟨b, us, rfl, k2, k3⟩ := hy
  cases rx
  cases ry
  refine FLG.rc_list_neG hr.room.units0 (fun _ s' => LoopI X pins σ H s') (listI (n := k + 5) (fun d hd => eqN_good hK E (List.all_eq_true.mp hg d hd)) hr rfl sg h2 k2 h3 k3) (fun s' z => ?_) ⟨H, I, Ext.rfl'⟩
  obtain ⟨H', I', e⟩ := z
  exact ⟨.bl false, H', I', rfl, q H' e⟩
def neOX (c : Nat) (F : Fn) (x y : Xv) (s : Sto) : Res := match x, y with
  | .d (.lst xs), .d (.lst ys) => if beqDs xs ys = true ∧ xs.all (goodS c F 5) = true then okB false s else eqX true x y s
  | x, y => eqX true x y s
theorem RS.ext {w : Wd} {s : Sto} {H H' : Hp} (r : RS T w s H) (e : Ext H H') : RS T w s H' :=
  ⟨r.g.trans e, r.z.trans e, r.gz, r.len, fun i o a e1 e2 e3 => by
    obtain ⟨ho, h1, h2⟩ := r.live i o a e1 e2 e3
    exact ⟨ho, e _ _ h1, h2⟩, r.inj⟩
theorem neO_ok {c : Nat} {F : Fn} : Op2 T W (fun x y H Q => rNeSame T c F x y H Q ∨ rNeD T.K x y H Q) (neOX c F) := by
  intro st w x y u v s H Q hx hy r p
  unfold neOX at p
  split at p
  · rename_i xs ys
    split at p
    · rename_i hc
      have e := beqDs_eq hc.1
      subst e
      exact .inl ⟨w.G, xs, r.g, hc.2, hx, hy, fun H' e => p w _ H' (.refl _) rX_bl (r.ext e)⟩
    · exact .inr (ne_ok st w _ _ u v s H Q hx hy r p)
  · exact .inr (ne_ok st w _ _ u v s H Q hx hy r p)
theorem neOX_bl {c : Nat} {F : Fn} : Bl2 (neOX c F) := fun x y s => by
  unfold neOX
  split
  · split
    · exact .inl ⟨_, _, rfl⟩
    · exact eqX_bl _ _ _
  · exact eqX_bl _ _ _
theorem o_neO {k j c : Nat} {F : Fn} (E : TxEq T X.prog X.w X.K X.mg X.base j c F) (C : Cn T X W k) (hj : j + 6 ≤ k := by decide) : OpR X (compareOp .NotEq) (fun x y H Q => rNeSame T c F x y H Q ∨ rNeD T.K x y H Q) :=
  (op_neSame C.hK E (C.hr.mono hj)).or (C.hK ▸ op_neD C.un)
end
end FL

set_option Elab.async false
set_option linter.all false
set_option maxRecDepth 100000
set_option maxHeartbeats 1000000
namespace FL
open PySem PySem.Spec PyProof.Rows L2
section
variable {T : Tx} {X : Cx} {W : WX} {ex : Nat → Bool}
/-! ### a built-in function that stands under a name of the module -/
theorem pe_callMB {x : Str} {p pos : Pos} {e : Expr} {es : List Expr} {id : String} {r : RN} {t : TA} (hc : CallR X (.builtin id) r) (hm : X.mg x = some (.builtin id)) (ha : PA X (e :: es) t) (hg : Gl X x := by rfl)
    (hdb : (x == ("__debug__" : Str)) = false := by decide) (he : starEach (e :: es) X.env = (false, eval e X.env) :: starEach es X.env := by rfl) (hpl : (backTo pos (starEach es X.env)).any (·.1) = false := by rfl) : PE X (.Call (.Name x p) (e :: es) [] pos) (tCB r t) := ⟨fun pins s σ H Q I h =>
  wpAny_Call_Name_kw (ld_glob I hg hm (PyProof.Rows.callWith_builtin1 (thn (ha.run pos pins s σ H _ I h) fun us s1 ⟨vs, H1, I1, r1, q1⟩ => hc pins s1 σ H1 vs us Q I1 r1 q1) he hpl) hdb)⟩
theorem pf_callMB {x : Str} {p pos : Pos} {e : Expr} {es : List Expr} {id : String} {r : RN} {o : List Xv → Sto → Res} {g : FA} (hc : CallR X (.builtin id) r) (h : OpN T W r o) (hm : X.mg x = some (.builtin id)) (ha : PFA T X W (e :: es) g) (hg : Gl X x := by rfl)
    (hdb : (x == ("__debug__" : Str)) = false := by decide) (he : starEach (e :: es) X.env = (false, eval e X.env) :: starEach es X.env := by rfl) (hpl : (backTo pos (starEach es X.env)).any (·.1) = false := by rfl) :
    PF T X W (.Call (.Name x p) (e :: es) [] pos) (callBF o g) := PE.imp (pe_callMB hc hm ha hg hdb he hpl) fun _ _ _ => rd_callB h
def rLcm : RN := fun xs H Q => ∃ i j : Int, xs = [.int i, .int j] ∧ i.natAbs < 2 ^ 64 ∧ j.natAbs < 2 ^ 64 ∧ Q (.int ((i.natAbs.lcm j.natAbs : Nat) : Int)) H
theorem call_lcm : CallR X (.builtin "math.lcm") rLcm := by
  rintro pins s σ H xs us Q I r ⟨i, j, rfl, hi, hj, q⟩
  cases r with
  | cons r1 r =>
    cases r with
    | cons r2 r =>
      cases r
      obtain ⟨t1, e1⟩ := (show ∃ t, _ = Value.int i t from r1)
      obtain ⟨t2, e2⟩ := (show ∃ t, _ = Value.int j t from r2)
      subst e1 e2
      exact PySem.W.mc_lcm hi hj fun _ => ⟨.int _, H, I.tok _, ⟨_, rfl⟩, q⟩
def lcmX (xs : List Xv) (s : Sto) : Res := match xs with
  | [.d (.int i), .d (.int j)] => if i.natAbs < 2 ^ 64 ∧ j.natAbs < 2 ^ 64 then okI ((i.natAbs.lcm j.natAbs : Nat) : Int) s else .stuck
  | _ => .stuck
theorem lcm_ok : OpN T W rLcm lcmX := by
  intro st w xs vs s H Q hx r p
  unfold lcmX at p
  split at p
  · split at p
    · rename_i hc
      obtain ⟨v, u, rfl, e, f⟩ := rxs2 hx
      cases X_int e
      cases X_int f
      exact ⟨_, _, rfl, hc.1, hc.2, okI_q p r⟩
    · exact p.elim
  · exact p.elim
/-! ### try .. except C as n: y = n.value -/
def tryValS (sub : Nat → Nat → Bool) (ex : Nat → Bool) (k i j : Nat) (b : FS) : FS := fun ρ s => match b ρ s with
  | .exc (.exc c ns vs) r s1 => if ex c = true ∧ i < r.length then (if sub c k = true then (match getN ns vs "value" with | some d => .nx ((((r.set i none).set j (some (.d d))).set i none)) s1 | none => .stuck) else .exc (.exc c ns vs) r s1) else .stuck
  | .exc _ _ _ => .stuck
  | o => o
theorem pe_xfA {a : Addr} {oe : Obj} {cls : Value} {d : Option Addr} {pn : List (Addr × Obj)} {e : Expr} {te : TE} {pos : Pos} {n : Str} (hz : Zc cls d oe) (hf : ∃ vs, oe.data = .fields vs) (he : PE (X.suite a ((a, oe) :: pn)) e te) (hb : attributeBase e n X.env (eval e X.env) = eval e X.env := by rfl) :
    PE (X.suite a ((a, oe) :: pn)) (.Attribute e n pos) (fun σ H Q => te σ H fun x H1 => x = .ref a ∧ ∃ (C : Addr) (dd : Addr) (fs : List (Str × V)) (v : V), cls = .ref C ∧ XfC X.K C ∧ PySem.W.findIn X.K (.ref C) n = some none ∧ d = some dd ∧ H1 dd = some (.xd fs) ∧ fs.lookup n = some v ∧ Q v H1) := by
  refine ⟨fun pins s σ H Q I h => ?_⟩
  refine attr_of hb (thn (he.run pins s σ H _ I h) fun u s1 hh => ?_)
  obtain ⟨x, H1, I1, rx, ex, C, dd, fs, v, ec, T, hno, ed, ea, l, q⟩ := hh
  subst ex
  obtain rfl : u = Value.ref a := rx
  subst ec
  subst ed
  obtain ⟨ha, _⟩ := I1.pin (a, oe) (List.mem_append_left _ List.mem_cons_self)
  obtain ⟨vs, hd⟩ := hf
  have hx : ObjOk X.prog X.w H1 s1.heap dd (.xd fs) := I1.hok dd _ ea
  obtain ⟨mA, hns, hr⟩ := hx
  obtain ⟨od, ho, hl⟩ := lookIn_ns hns
  obtain ⟨u, hu, ru⟩ := RelO.some_of (v := v) (o := mA n) (by rw [← l]; exact hr n)
  have J : PySem.W.InstAt s1.heap a oe C (some od) := ⟨ha, hz.1, by unfold PySem.W.notCls; rw [hd] <;> rfl, by rw [hz.2]; exact ho⟩
  exact HandSPX.exc_get I1.kIn J T.ga T.gg T.exC (PySem.W.findObj_own T.hdC hno rfl (by rw [hl, hu])) (handed_of ru) ⟨v, H1, I1.tok _, ru, q⟩
theorem pfs_tryVal {x n y : Str} {k i j : Nat} {body : List Stmt} {np p1 p2 p3 p4 pos pos' : Pos} {b : FS} (E : TxEx T ex) (hK : X.K = T.K) (hs : X.stack = X.env :: X.outer) (hf : X.env.frame = some X.env.locals) (hex : X.ex = []) (hfn : ∀ z, X.fn z = true) (tk : Takes X W) (hk : ex k = true) (hmc : X.mg x = some (.ref (T.ct k)))
    (hN : X.N.Nodup) (hb : ∀ (W' : WX) (pn : List (Addr × Obj)) (xe : Value → Shared → Prop), Takes (X.tr pn xe) W' → PassesOwn (model X.prog X.w) X.A X.env xe → PFSs T (X.tr pn xe) W' body b)
    (hi : X.N[i]? = some n := by rfl) (hj : X.N[j]? = some y := by rfl) (hij : i ≠ j := by decide) (hln : X.env.kindOf n = some .local := by rfl) (hly : X.env.scope.names.lookup y = some .local := by rfl) (hvn : Vis X.env.scope n := by exact .inl rfl) (hg : Gl X x := by rfl) (hdb : (x == ("__debug__" : Str)) = false := by decide) (hdn : (n == ("__debug__" : Str)) = false := by decide) (hdc : (n == ("__classdict__" : Str)) = false := by decide)
    (hab : attributeBase (.Name n p2) "value" X.env (eval (.Name n p2) X.env) = eval (.Name n p2) X.env := by rfl)
    (hsw : swapsWith (.Attribute (.Name n p2) "value" p4) (some (.Name y p1)) p3.line X.env = pure false := by rfl) :
    PFS T X W (.Try body [.ExceptHandler (some (.Name x np)) (some n) [.Assign [.Name y p1] (.Attribute (.Name n p2) "value" p4) p3] pos'] [] [] pos) (tryValS T.sub ex k i j b) := by
  refine PS.imp (ps_try_keep (tb := fun W' => rdS T W' b) (Wout := W) hs hf hex hN hi hln ⟨hg, hdb, .inl hmc⟩ tk hb (ts := fun a cls d => tAsg (fun σ H Q => tVar i σ H fun x H1 => x = .ref a ∧ ∃ (C : Addr) (dd : Addr) (fs : List (Str × V)) (v : V), cls = .ref C ∧ XfC X.K C ∧ PySem.W.findIn X.K (.ref C) "value" = some none ∧ d = some dd ∧ H1 dd = some (.xd fs) ∧ fs.lookup ("value" : Str) = some v ∧ Q v H1) (gName j)) fun a oe cls d pn hz hd => pss_one (ps_set (X := X.suite a ((a, oe) :: pn)) (i := j) hN hj (.inl hly) (pe_xfA hz hd (pe_var (X := X.suite a ((a, oe) :: pn)) hi hvn hdn hdc) hab) hsw (.inl (hfn y)))) fun D st H ⟨w, ρ, s, e, q, p⟩ => ?_
  refine ⟨w, ρ, s, e, q, ?_⟩
  unfold tryValS at p
  revert p
  cases b ρ s with
  | nx r s1 => exact fun p => p
  | rt v s1 => exact fun p => p
  | bk r s1 => exact fun p => p
  | ct r s1 => exact fun p => p
  | stuck => exact fun p => p
  | exc x0 r s1 =>
    intro p w1 cls d st1 H1 l1 xe e1 r1
    obtain ⟨c, ns, xs, fs, rfl, rfl, h3, h4, h5⟩ := xe
    dsimp only at p
    split at p
    · rename_i hc
      refine ⟨T.sub c k, by rw [hK]; exact E.ma c k hc.1 hk, fun hb a ha => ?_, fun hb => ?_⟩
      · rw [if_pos hb] at p
        split at p
        · rename_i dv hdv
          have il : i < st1.length := by
            rw [← e1.len]
            exact hc.2
          obtain ⟨v', hl, rv⟩ := getN_ok h4 h5 hdv
          have Kx := E.k c hc.1
          rcases h3 with ⟨_, h3⟩ | ⟨dd, h3, h6⟩
          · rw [h3] at hdv
            simp [getN] at hdv
          · subst h3
            refine ⟨.ref a, by rw [List.getElem?_set_self il], rfl, T.ct c, dd, fs, v', rfl, by rw [hK]; exact ⟨Kx.ga, Kx.gg, Kx.exC, Kx.hdC⟩, by rw [hK]; exact Kx.noV, rfl, r1.g _ _ h6, hl, ?_⟩
            obtain ⟨l2, r2⟩ := upd_held r1 ha (ExA (.ref (T.ct c)) (some dd) a)
            exact p _ _ _ (l1.trans l2) (RE.setN (RE.set (RE.setN (e1.mono l2)) j (RX.mono (x := .d dv) l2 rv))) r2
        · exact p.elim
      · rw [if_neg (by rw [hb]; exact Bool.false_ne_true)] at p
        exact p w1 _ _ st1 H1 l1 ⟨c, ns, xs, fs, rfl, rfl, h3, h4, h5⟩ e1 r1
    · exact p.elim
end
end FL

set_option Elab.async false
set_option linter.all false
set_option maxRecDepth 100000
set_option maxHeartbeats 1000000
namespace FL
open PySem PySem.Spec PyProof.Rows L2
/-- a method of the text, as the file shows it -/
structure MeF (K : PySem.W.Frag) (C : Addr) (m qual : Str) (st : Stmt) (f : Addr) : Prop where
  at_ : PySem.W.findIn K (.ref C) m = some (some (.ref f))
  isf : PySem.W.isFn K (.ref f) = true
  fn : ∃ fd, FunD K m qual (defArgs st) (defBody st) (defScope st) [] [] f fd
theorem meF {K : PySem.W.Frag} {C : Addr} {m qual : Str} {st : Stmt} {f : Addr} {oc : Value} {od : Option Addr} {kV doc pm : Value} {an : Option Addr} {cd ct : Value} {sl : Array (Option Value)} (a : PySem.W.findIn K (.ref C) m = some (some (.ref f))) (t : PySem.W.typeIn K (.ref f) = some (.type "function"))
    (l : K.lookup f = some ⟨oc, od, .func (PySem.W.fnOf m qual (defArgs st) (defBody st) (defScope st) .none kV doc pm an cd ct), sl⟩) (c : PySem.W.codeIn K cd qual = true) (k : PySem.W.keepIn K (.ref f) = true) : MeF K C m qual st f :=
  ⟨a, by unfold PySem.W.isFn; rw [t]; rfl, _, ⟨oc, od, .none, kV, doc, pm, an, cd, ct, sl, rfl, l, c, .inl ⟨rfl, rfl⟩, .inl rfl⟩, k⟩
section
variable {T : Tx} {P : Program} {w : World} {K : PySem.W.Frag} {mg : Str → Option Value} {base : Heap}
theorem defM_mk {k c : Nat} {x qual : Str} {st : Stmt} {f : Addr} {N ps : List Str} {fs : FS} {F : Fn} (A : MeF K (T.ct c) "__init__" qual st f) (mx : mg x = some (.ref (T.ct c))) (mk : PySem.W.makesIn K (T.ct c) = true) (kp : PySem.W.keepIn K (.ref (T.ct c)) = true) (S : FnScope N ps (defScope st)) (hF : bodyF (N.length - ps.length) fs = F)
    (hb : ∀ (kV doc pm : Value) (an : Option Addr) (cdv ct : Value) (us : List Value), us.length = ps.length → bindArgs (PySem.W.fnOf "__init__" qual (defArgs st) (defBody st) (defScope st) .none kV doc pm an cdv ct) ⟨us, []⟩ = pure (ps.zip us))
    (h : ∀ (q : Qx) (W : WX), RoomG k q.A → Takes (mkX P w K mg base N (defScope st) q) W → PassesOwn (model P w) q.A (enX (defScope st) q) q.xe → PFSs T (mkX P w K mg base N (defScope st) q) W (defBody st) fs) :
    DefM T P w K mg base (k + 1) x c ps [] F := by
  obtain ⟨fd, D⟩ := A.fn
  subst hF
  exact ⟨f, fd, [], [], fn_mk2 D S h, mx, ⟨mk, A.at_, A.isf, kp⟩, D.bindsN hb, .nil, fun G => by unfold Rs; rfl⟩
theorem defO_mk {k c : Nat} {m qual : Str} {st : Stmt} {f : Addr} {N ps : List Str} {fs : FS} {F : Fn} (A : MeF K (T.ct c) m qual st f) (cl : Cls K (T.ct c)) (S : FnScope N ps (defScope st)) (hF : bodyF (N.length - ps.length) fs = F)
    (hb : ∀ (kV doc pm : Value) (an : Option Addr) (cdv ct : Value) (us : List Value), us.length = ps.length → bindArgs (PySem.W.fnOf m qual (defArgs st) (defBody st) (defScope st) .none kV doc pm an cdv ct) ⟨us, []⟩ = pure (ps.zip us))
    (h : ∀ (q : Qx) (W : WX), RoomG k q.A → Takes (mkX P w K mg base N (defScope st) q) W → PassesOwn (model P w) q.A (enX (defScope st) q) q.xe → PFSs T (mkX P w K mg base N (defScope st) q) W (defBody st) fs) :
    DefO T P w K mg base (k + 1) c m ps [] F := by
  obtain ⟨fd, D⟩ := A.fn
  subst hF
  exact ⟨f, fd, [], [], fn_mk2 D S h, cl, ⟨A.at_, A.isf, D.kp⟩, D.bindsN hb, .nil, fun G => by unfold Rs; rfl⟩
theorem defE_mk {k c : Nat} {qual : Str} {st : Stmt} {f : Addr} {N ps : List Str} {fs : FS} {F : Fn} (A : MeF K (T.ct c) "__eq__" qual st f) (bi : ∀ t ∈ knownT, PySem.W.notFirst K (T.ct c) (.type t) = true) (ow : OwnC K (T.ct c)) (S : FnScope N ps (defScope st)) (hF : bodyF (N.length - ps.length) fs = F) (h2 : ps.length = 2)
    (hb : ∀ (kV doc pm : Value) (an : Option Addr) (cdv ct : Value) (us : List Value), us.length = ps.length → bindArgs (PySem.W.fnOf "__eq__" qual (defArgs st) (defBody st) (defScope st) .none kV doc pm an cdv ct) ⟨us, []⟩ = pure (ps.zip us))
    (h : ∀ (q : Qx) (W : WX), RoomG k q.A → Takes (mkX P w K mg base N (defScope st) q) W → PassesOwn (model P w) q.A (enX (defScope st) q) q.xe → PFSs T (mkX P w K mg base N (defScope st) q) W (defBody st) fs) :
    TxEq T P w K mg base (k + 1) c F := by
  obtain ⟨fd, D⟩ := A.fn
  subst hF
  exact ⟨⟨f, fd, ps, by have := fn_mk2 (T := T) (P := P) (w := w) (mg := mg) (base := base) D S h; rw [h2] at this ⊢; exact this, A.at_, A.isf, D.bindsN hb⟩, bi, ow⟩
end
end FL

set_option Elab.async false
set_option linter.all false
set_option maxRecDepth 100000
set_option maxHeartbeats 1000000
namespace FL
open PySem PySem.Spec PyProof.Rows L2
theorem nr {α : Sort _} {a b : α} (h : a = b) : a = b := h
/-! ### evaluation of the functional layer by simp -/
@[simp] theorem e_seq (a b : FS) (ρ s) : seqS a b ρ s = (a ρ s).andThen b := nr rfl
@[simp] theorem e_at_nx (r s k) : (Out.nx r s).andThen k = k r s := nr rfl
@[simp] theorem e_at_rt (v s k) : (Out.rt v s).andThen k = .rt v s := nr rfl
@[simp] theorem e_at_exc (e r s k) : (Out.exc e r s).andThen k = .exc e r s := nr rfl
@[simp] theorem e_skip (ρ s) : skipS ρ s = .nx ρ s := nr rfl
@[simp] theorem e_ret (f : FE) (ρ s) : retS f ρ s = (f ρ s).bindS ρ fun v s1 => .rt v s1 := nr rfl
@[simp] theorem e_set (i) (f : FE) (ρ s) : setS i f ρ s = (f ρ s).bindS ρ fun v s1 => .nx (ρ.set i (some v)) s1 := nr rfl
@[simp] theorem e_expr (f : FE) (ρ s) : exprS f ρ s = (f ρ s).bindS ρ fun _ s1 => .nx ρ s1 := nr rfl
@[simp] theorem e_raise (c) (f : FE) (ρ s) : raiseS c f ρ s = (f ρ s).bindS ρ fun v s1 => match v with | .d v => .exc (.exc c ["value"] [v]) ρ s1 | _ => .stuck := nr rfl
@[simp] theorem e_bS (v s ρ k) : (Res.ok v s).bindS ρ k = k v s := nr rfl
@[simp] theorem e_bSx (e s ρ k) : (Res.exc e s).bindS ρ k = .exc e ρ s := nr rfl
@[simp] theorem e_b (v s k) : (Res.ok v s).bind k = k v s := nr rfl
@[simp] theorem e_bx (e s k) : (Res.exc e s).bind k = .exc e s := nr rfl
@[simp] theorem e_bA (v s k) : (Res.ok v s).bindA k = k v s := nr rfl
@[simp] theorem e_bLA (v s k) : (ResL.ok v s).bindA k = k v s := nr rfl
@[simp] theorem e_bL (v s k) : (ResL.ok v s).bind k = k v s := nr rfl
@[simp] theorem e_lit (d ρ s) : litF d ρ s = .ok (.d d) s := nr rfl
@[simp] theorem e_var (i ρ s) : varF i ρ s = match ρ[i]? with | some (some v) => .ok v s | _ => .stuck := nr rfl
@[simp] theorem e_op2 (o f g ρ s) : op2F o f g ρ s = (f ρ s).bind fun x s1 => (g ρ s1).bind fun y s2 => o x y s2 := nr rfl
@[simp] theorem e_nil (ρ s) : nilA ρ s = .ok [] s := nr rfl
@[simp] theorem e_cons (f : FE) (g : FA) (ρ s) : consA f g ρ s = (f ρ s).bindA fun x s1 => (g ρ s1).bindA fun xs s2 => .ok (x :: xs) s2 := nr rfl
@[simp] theorem e_callB (o g ρ s) : callBF o g ρ s = (g ρ s).bind o := nr rfl
@[simp] theorem e_callF (m F dv g ρ s) : callF m F dv g ρ s = (g ρ s).bind fun xs s1 => runC m F (xs ++ dv.map .d) s1 := nr rfl
@[simp] theorem e_callKF (m n k F pm g ρ s) : callKF m n k F pm g ρ s = (g ρ s).bind fun xs s1 => if xs.length = k ∧ (permL pm xs).length = n then runC m F (permL pm xs) s1 else .stuck := nr rfl
@[simp] theorem e_and (f g : FE) (ρ s) : andF f g ρ s = (f ρ s).bind fun x s1 => match x with | .d (.bl true) => g ρ s1 | .d (.bl false) => okB false s1 | _ => .stuck := nr rfl
@[simp] theorem e_or (f g : FE) (ρ s) : orF f g ρ s = (f ρ s).bind fun x s1 => match x with | .d (.bl true) => okB true s1 | .d (.bl false) => g ρ s1 | _ => .stuck := nr rfl
@[simp] theorem e_not (f : FE) (ρ s) : notF f ρ s = (f ρ s).bind fun x s1 => match x with | .d (.bl b) => okB (!b) s1 | _ => .stuck := nr rfl
@[simp] theorem e_if (c a b : FE) (ρ s) : ifF c a b ρ s = (c ρ s).bind fun x s1 => match truth x s1 with | some true => a ρ s1 | some false => b ρ s1 | none => .stuck := nr rfl
@[simp] theorem e_ifS (c : FE) (a b : FS) (ρ s) : ifS c a b ρ s = (c ρ s).bindS ρ fun x s1 => match truth x s1 with | some true => a ρ s1 | some false => b ρ s1 | none => .stuck := nr rfl
@[simp] theorem t_bl (b s) : truth (.d (.bl b)) s = some b := nr rfl
@[simp] theorem e_neg (f : FE) (ρ s) : negF f ρ s = (f ρ s).bind fun x s1 => match x with | .d (.int i) => okI (-i) s1 | _ => .stuck := nr rfl
@[simp] theorem e_bits (f : FE) (ρ s) : bitsF f ρ s = (f ρ s).bind fun x s1 => match x with | .d (.int i) => okI (Builtin.Int.intBits i : Nat) s1 | _ => .stuck := nr rfl
@[simp] theorem e_okI (i s) : okI i s = .ok (.d (.int i)) s := nr rfl
@[simp] theorem e_okB (b s) : okB b s = .ok (.d (.bl b)) s := nr rfl
@[simp] theorem e_add (m i j s) : addX m (.d (.int i)) (.d (.int j)) s = .ok (.d (.int (i + j))) s := nr rfl
@[simp] theorem e_sub (i j s) : subX (.d (.int i)) (.d (.int j)) s = .ok (.d (.int (i - j))) s := nr rfl
theorem e_mod (i j s) (h : 0 < j) : modX (.d (.int i)) (.d (.int j)) s = .ok (.d (.int (i % j))) s := if_pos (decide_eq_true h)
theorem e_div (i j s) (h : 0 < j) (h2 : j.natAbs.log2 < 9000) : fdivX (.d (.int i)) (.d (.int j)) s = .ok (.d (.int (i / j))) s := if_pos (by
  show (decide (0 < j) && decide (j.natAbs.log2 < 9000)) = true
  rw [decide_eq_true h, decide_eq_true h2]
  rfl)
theorem e_mul (m i j s) (h : i.natAbs.log2 + j.natAbs.log2 < 1000000) : mulX m (.d (.int i)) (.d (.int j)) s = .ok (.d (.int (i * j))) s := if_pos h
@[simp] theorem e_lt (i j s) : ltX (.d (.int i)) (.d (.int j)) s = .ok (.d (.bl (decide (i < j)))) s := nr rfl
@[simp] theorem e_le (i j s) : leX (.d (.int i)) (.d (.int j)) s = .ok (.d (.bl (decide (i ≤ j)))) s := nr rfl
@[simp] theorem e_gt (i j s) : gtX (.d (.int i)) (.d (.int j)) s = .ok (.d (.bl (decide (j < i)))) s := nr rfl
@[simp] theorem e_ge (i j s) : geX (.d (.int i)) (.d (.int j)) s = .ok (.d (.bl (decide (j ≤ i)))) s := nr rfl
@[simp] theorem e_int (i s) : intX [.d (.int i)] s = .ok (.d (.int i)) s := nr rfl
theorem log_lt {n k : Nat} (h : n < 2 ^ (k + 1)) : n.log2 ≤ k := by
  by_cases h0 : n = 0
  · subst h0
    exact Nat.zero_le _
  · have q := (Nat.log2_lt h0).mpr h
    omega
theorem logI {i : Int} {k : Nat} (h : -(2 ^ k : Int) < i) (h2 : i < 2 ^ k) : i.natAbs.log2 ≤ k := by
  refine Nat.le_trans (log_lt (k := k) ?_) (Nat.le_refl _)
  have q : i.natAbs < 2 ^ k := by
    have e : ((2 ^ k : Nat) : Int) = (2 : Int) ^ k := by norm_cast
    omega
  exact Nat.lt_of_lt_of_le q (Nat.pow_le_pow_right (by decide) (Nat.le_succ k))
@[simp] theorem g_zero {α : Type} (a : α) (l : List α) : (a :: l)[0]? = some a := rfl
@[simp] theorem g_succ {α : Type} (a : α) (l : List α) (i : Nat) : (a :: l)[i + 1]? = l[i]? := rfl
/-- a number that is not large -/
def Bd (i : Int) : Prop := -(2 ^ 400 : Int) < i ∧ i < 2 ^ 400
theorem e_mul2 (m i j s) (h : Bd i) (k : Bd j) : mulX m (.d (.int i)) (.d (.int j)) s = .ok (.d (.int (i * j))) s := e_mul m i j s (by
  have q1 := logI h.1 h.2
  have q2 := logI k.1 k.2
  omega)
def runOut : Out → Res
  | .nx _ s' => .ok (.d .non) s'
  | .rt v s' => .ok v s'
  | .exc e _ s' => .exc e s'
  | _ => .stuck
theorem e_body (n f ds s) : bodyF n f ds s = runOut (f (ds.map some ++ List.replicate n none) s) := rfl
@[simp] theorem e_out1 (r s) : runOut (.nx r s) = .ok (.d .non) s := nr rfl
@[simp] theorem e_out2 (v s) : runOut (.rt v s) = .ok v s := nr rfl
@[simp] theorem e_out3 (e r s) : runOut (.exc e r s) = .exc e s := nr rfl
theorem run0_d {m : Bool} {F : Fn} {xs : List Xv} {s s2 : Sto} {v : D} (h : F xs [] = .ok (.d v) s2) (h0 : refsOf xs = []) : runC m F xs s = .ok (.d v) s := by
  unfold runC
  rw [h0]
  dsimp only
  unfold run0
  rw [h]
theorem run1_d {m : Bool} {F : Fn} {xs : List Xv} {rest s2 : Sto} {o o2 : List D} {v : D} (h : F (.ref 0 :: zero xs) [.lst o] = .ok (.d v) (.lst o2 :: s2)) (h0 : refsOf xs = []) : runC m F (.ref 0 :: xs) (.lst o :: rest) = .ok (.d v) (.lst o2 :: rest) := by
  unfold runC
  show (if allEq 0 (refsOf xs) = true then run1 m F (.ref 0 :: xs) 0 (.lst o :: rest) else .stuck) = _
  rw [h0]
  rw [if_pos (by rfl)]
  unfold run1
  show (match F (.ref 0 :: zero xs) [.lst o] with
    | .ok (.d v) s2 => match get0 s2 with | some o2 => Res.ok (.d v) ((O.lst o :: rest).set 0 o2) | none => .stuck
    | .ok (.ref j) s2 => match get0 s2 with
      | some o2 => if j = 0 then .ok (.ref 0) ((O.lst o :: rest).set 0 o2) else match s2[j]? with | some u => mkO m u ((O.lst o :: rest).set 0 o2) | none => .stuck
      | none => .stuck
    | .exc e s2 => match get0 s2 with | some o2 => .exc e ((O.lst o :: rest).set 0 o2) | none => .stuck
    | .stuck => .stuck) = _
  rw [h]
  rfl
/-! ### loops -/
theorem forF_inv {asg : Xv → Env' → Option Env'} {b : FS} (I : Nat → Env' → Sto → Prop) : ∀ (xs : List D) (i : Nat) {ρ : Env'} {s : Sto}, I i ρ s → (∀ (j : Nat) (x : D) (ρ : Env') (s : Sto), xs[j]? = some x → I (i + j) ρ s → ∃ r r' s', asg (.d x) ρ = some r ∧ b r s = .nx r' s' ∧ I (i + j + 1) r' s') →
    ∃ ρ' s', forF asg b xs ρ s = .nx ρ' s' ∧ I (i + xs.length) ρ' s'
  | [], i, ρ, s, h0, _ => ⟨ρ, s, rfl, h0⟩
  | x :: xs, i, ρ, s, h0, hs => by
    obtain ⟨r, r', s', e1, e2, e3⟩ := hs 0 x ρ s rfl h0
    obtain ⟨ρ2, s2, e4, e5⟩ := forF_inv I xs (i + 1) e3 (fun j y ρ s hj hI => by
      have q := hs (j + 1) y ρ s (by simpa using hj) (by rw [show i + (j + 1) = i + 1 + j by omega]; exact hI)
      rw [show i + (j + 1) + 1 = i + 1 + j + 1 by omega] at q
      exact q)
    refine ⟨ρ2, s2, ?_, by rw [List.length_cons, show i + (xs.length + 1) = i + 1 + xs.length by omega]; exact e5⟩
    unfold forF
    rw [e1]
    dsimp only
    rw [e2]
    exact e4
@[simp] theorem e_for (asg f b ρ s) : forS asg f b ρ s = (f ρ s).bindS ρ fun x s1 => match x with | .d (.lst xs) => forF asg b xs ρ s1 | _ => .stuck := nr rfl
@[simp] theorem e_name (i x ρ) : nameG i x ρ = some (ρ.set i (some x)) := nr rfl
theorem compN_st {asg : Xv → Env' → Option Env'} {f : FE} {ρ : Env'} (P : D → Prop) (J : Nat → Sto → Prop) : ∀ (xs : List D) (i : Nat) {s : Sto}, J i s → (∀ (j : Nat) (x : D) (s : Sto), xs[j]? = some x → J (i + j) s → ∃ r y s', asg (.d x) ρ = some r ∧ f r s = .ok (.d y) s' ∧ P y ∧ J (i + j + 1) s') →
    ∃ ys s', compN asg yesF f ρ xs s = some (ys, s') ∧ ys.length = xs.length ∧ (∀ y ∈ ys, P y) ∧ J (i + xs.length) s'
  | [], i, s, h0, _ => ⟨[], s, rfl, rfl, (fun y hy => nomatch hy), h0⟩
  | x :: xs, i, s, h0, hs => by
    obtain ⟨r, y, s', e1, e2, e3, e4⟩ := hs 0 x s rfl h0
    obtain ⟨ys, s2, e5, e6, e7, e8⟩ := compN_st P J xs (i + 1) (s := s') e4 (fun j y s hj hI => by
      have q := hs (j + 1) y s (by simpa using hj) (by rw [show i + (j + 1) = i + 1 + j by omega]; exact hI)
      rw [show i + (j + 1) + 1 = i + 1 + j + 1 by omega] at q
      exact q)
    refine ⟨y :: ys, s2, ?_, by simp [e6], fun z hz => ?_, by rw [List.length_cons, show i + (xs.length + 1) = i + 1 + xs.length by omega]; exact e8⟩
    · unfold compN
      rw [e1]
      show (match f r s with
          | .ok (.d y) s2 => match compN asg yesF f ρ xs s2 with
            | some (ys, s3) => some (y :: ys, s3)
            | none => none
          | _ => none) = _
      rw [e2]
      dsimp only
      rw [e5]
    · rcases List.mem_cons.mp hz with rfl | hz
      · exact e3
      · exact e7 z hz
theorem compN_map {asg : Xv → Env' → Option Env'} {f : FE} {ρ : Env'} {s : Sto} (g : D → D) : ∀ (xs : List D), (∀ x ∈ xs, ∃ r, asg (.d x) ρ = some r ∧ f r s = .ok (.d (g x)) s) → compN asg yesF f ρ xs s = some (xs.map g, s)
  | [], _ => rfl
  | x :: xs, h => by
    obtain ⟨r, e1, e2⟩ := h x (List.mem_cons_self ..)
    have e5 := compN_map g xs (fun y hy => h y (List.mem_cons_of_mem _ hy))
    unfold compN
    rw [e1]
    show (match f r s with
          | .ok (.d y) s2 => match compN asg yesF f ρ xs s2 with
            | some (ys, s3) => some (y :: ys, s3)
            | none => none
          | _ => none) = _
    rw [e2]
    dsimp only
    rw [e5]
    rfl
theorem compN_filter {asg : Xv → Env' → Option Env'} {t f : FE} {ρ : Env'} {s : Sto} (b : D → Bool) : ∀ (xs : List D), (∀ x ∈ xs, ∃ r, asg (.d x) ρ = some r ∧ t r s = .ok (.d (.bl (b x))) s ∧ f r s = .ok (.d x) s) → compN asg t f ρ xs s = some (xs.filter b, s)
  | [], _ => rfl
  | x :: xs, h => by
    obtain ⟨r, e1, e2, e3⟩ := h x (List.mem_cons_self ..)
    have e5 := compN_filter b xs (fun y hy => h y (List.mem_cons_of_mem _ hy))
    unfold compN
    rw [e1]
    dsimp only
    rw [e2]
    dsimp only
    cases hb : b x with
    | true =>
      rw [List.filter_cons_of_pos hb]
      show (match f r s with
          | .ok (.d y) s2 => match compN asg t f ρ xs s2 with
            | some (ys, s3) => some (y :: ys, s3)
            | none => none
          | _ => none) = _
      rw [e3]
      dsimp only
      rw [e5]
    | false =>
      rw [List.filter_cons_of_neg (by rw [hb]; exact Bool.false_ne_true)]
      exact e5
@[simp] theorem e_lc (m own asg f t g ρ s) : lcF m own asg f t g ρ s = (f ρ s).bind fun x s1 => match x with
  | .d (.lst xs) => if xs.length ≤ 1000000 then finL m [] (compN asg t g (wipeF ρ own) xs s1) else .stuck
  | _ => .stuck := nr rfl
@[simp] theorem e_wipe0 (ρ) : wipeF ρ [] = ρ := nr rfl
@[simp] theorem e_wipe1 (ρ v vs) : wipeF ρ (v :: vs) = (wipeF ρ vs).set v none := nr rfl
def rngK (xs : List Xv) (s1 : Sto) : Res := match xs with
  | [.d (.int j)] => if -(2 ^ 62) ≤ j ∧ j < 2 ^ 62 then .ok (.d (.lst (rngD 0 j.toNat))) s1 else .stuck
  | _ => .stuck
@[simp] theorem e_rng1 (g ρ s) : rng1F g ρ s = (g ρ s).bind rngK := nr rfl
theorem e_rng (j s) (h : 0 ≤ j) (h2 : j ≤ 1000000) : rngK [.d (.int j)] s = .ok (.d (.lst (rngD 0 j.toNat))) s := if_pos ⟨by omega, by omega⟩
theorem rng_len (lo n) : (rngD lo n).length = n := by unfold rngD; simp
theorem rng_at {lo : Int} {n j : Nat} {x : D} (h : (rngD lo n)[j]? = some x) : j < n ∧ x = .int (lo + j) := by
  have hj : j < n := by
    have := (List.getElem?_eq_some_iff.mp h).1
    rwa [rng_len] at this
  unfold rngD at h
  rw [List.getElem?_map, List.getElem?_range hj] at h
  cases h
  exact ⟨hj, rfl⟩
abbrev nsD (xs : List Int) : List D := xs.map .int
def isCnt : D → Bool
  | .int n => decide (0 ≤ n)
  | _ => false
def pl : D → Bool
  | .non => true
  | .bl _ => true
  | .int _ => true
  | .str _ => true
  | .tup _ => true
  | .lst _ => true
  | _ => false
@[simp] theorem len_t (xs s) : lenX [.d (.tup xs)] s = .ok (.d (.int xs.length)) s := nr rfl
@[simp] theorem len_l (xs s) : lenX [.d (.lst xs)] s = .ok (.d (.int xs.length)) s := nr rfl
@[simp] theorem eq_ii (n i j s) : eqX n (.d (.int i)) (.d (.int j)) s = .ok (.d (.bl (if n then !decide (i = j) else decide (i = j)))) s := by
  have e : PyData.eqv (toP (.int i)) (toP (.int j)) = decide (i = j) := by
    unfold toP PyData.eqv
    by_cases h : i = j
    · subst h; simp
    · simp [h]
  unfold eqX eqView
  dsimp only
  rw [if_pos (show (flatS 32 (.int i) && flatS 32 (.int j)) = true from rfl), e]
  rfl
@[simp] theorem none_n (n s) : isNoneX n (.d .non) (.d .non) s = .ok (.d (.bl (!n))) s := nr rfl
@[simp] theorem none_i (n i s) : isNoneX n (.d (.int i)) (.d .non) s = .ok (.d (.bl n)) s := nr rfl
@[simp] theorem isbl_b (n a b s) : isBlX n (.d (.bl a)) (.d (.bl b)) s = .ok (.d (.bl (if n then !decide (a = b) else decide (a = b)))) s := nr rfl
def isI : D → Bool
  | .int _ => true
  | _ => false
theorem eq_nil (xs : List D) (s) (h : flatS 32 (.lst xs) = true) : eqX false (.d (.lst xs)) (.d (.lst [])) s = .ok (.d (.bl xs.isEmpty)) s := by
  unfold eqX eqView
  dsimp only
  rw [if_pos (by rw [h]; rfl)]
  cases xs with
  | nil => rfl
  | cons a l =>
    unfold toP toPs PyData.eqv PyData.eqvAll
    rfl
theorem filt_emp (xs : List D) : (xs.filter (fun x => !isCnt x)).isEmpty = xs.all isCnt := by
  induction xs with
  | nil => rfl
  | cons a l ih =>
    rw [List.all_cons, List.filter_cons]
    cases h : isCnt a <;> simp [ih]
theorem flat_filter {n : Nat} {xs : List D} (f : D → Bool) (h : flatS (n + 1) (.lst xs) = true) : flatS (n + 1) (.lst (xs.filter f)) = true := by
  unfold flatS at h ⊢
  rw [List.all_eq_true] at h ⊢
  exact fun x hx => h x (List.mem_filter.mp hx).1
theorem flat_tl {n : Nat} {xs : List D} : flatS (n + 1) (.tup xs) = flatS (n + 1) (.lst xs) := by
  unfold flatS; rfl
/-- data the counting looks at -/
structure Ok (xs : List D) : Prop where
  pl : ∀ x ∈ xs, pl x = true
  fl : flatS 32 (.lst xs) = true
  le : xs.length ≤ 1000
theorem ok_ns {xs : List Int} (h : xs.length ≤ 1000) : Ok (nsD xs) := by
  refine ⟨fun x hx => ?_, ?_, by rw [List.length_map]; exact h⟩
  · obtain ⟨n, _, rfl⟩ := List.mem_map.mp hx
    rfl
  · unfold flatS
    rw [List.all_eq_true]
    intro x hx
    obtain ⟨n, _, rfl⟩ := List.mem_map.mp hx
    rfl
theorem all_ns {xs : List Int} (h : ∀ x ∈ xs, 0 ≤ x) : (nsD xs).all isCnt = true := by
  rw [List.all_eq_true]
  intro x hx
  obtain ⟨n, hn, rfl⟩ := List.mem_map.mp hx
  exact decide_eq_true (h n hn)
@[simp] theorem e_chain (o o' f g h ρ s) : chainF o o' f g h ρ s = (f ρ s).bind fun x s1 => (g ρ s1).bind fun y s2 => (o x y s2).bind (chainK o' h ρ y) := nr rfl
@[simp] theorem e_chk1 (o' h ρ y s) : chainK o' h ρ y (.d (.bl true)) s = (h ρ s).bind fun v s4 => o' y v s4 := nr rfl
@[simp] theorem e_chk2 (o' h ρ y s) : chainK o' h ρ y (.d (.bl false)) s = .ok (.d (.bl false)) s := nr rfl
@[simp] theorem at_0 (a : D) (l : List D) : atI (a :: l) 0 = some a := by
  unfold atI ixN
  simp
@[simp] theorem ix_tup0 (a l s) : ixX (.d (.tup (a :: l))) (.d (.int 0)) s = .ok (.d a) s := by
  show (match atI (a :: l) 0 with | some v => Res.ok (.d v) s | none => .stuck) = _
  rw [at_0]
theorem cut1 (a : D) (l : List D) : cutD (a :: l) (some 1) none = l := by
  unfold cutD
  have e1 : HT.sIx (a :: l).length 0 (some 1) = 1 := by
    show min 1 (l.length + 1) = 1
    omega
  rw [e1, HT.sIx_none]
  show l.take ((l.length + 1) - 1) = l
  rw [Nat.add_sub_cancel, List.take_length]
@[simp] theorem e_sl1 (a : D) (l : List D) (s) : slX false (.d (.tup (a :: l))) (.d (.int 1)) (.d .non) s = .ok (.d (.tup l)) s := by
  show Res.ok (.d (.tup (cutD (a :: l) (some 1) none))) s = _
  rw [cut1]
@[simp] theorem e_slF (m f l h ρ s) : slF m f l h ρ s = (f ρ s).bind fun x s1 => (l ρ s1).bind fun a s2 => if (prt a).isSome = true then (h ρ s2).bind fun b s3 => slX m x a b s3 else .stuck := nr rfl
@[simp] theorem e_intF (f ρ s) : intF f ρ s = (f ρ s).bind fun x s1 => match x with | .d (.int i) => okI i s1 | _ => .stuck := nr rfl
@[simp] theorem prt_i (i) : prt (.d (.int i)) = some (some i) := nr rfl
@[simp] theorem prt_n : prt (.d .non) = some none := nr rfl
@[simp] theorem e_zip (g ρ s) : zipSF g ρ s = (g ρ s).bind fun xs s1 => match xs with
  | [x, y] => match seqD x, seqD y with
    | some as, some bs => if as.length = bs.length then .ok (.d (.lst (zipD as bs))) s1 else .stuck
    | _, _ => .stuck
  | _ => .stuck := nr rfl
@[simp] theorem seqD_t (xs) : seqD (.d (.tup xs)) = some xs := nr rfl
@[simp] theorem seqD_l (xs) : seqD (.d (.lst xs)) = some xs := nr rfl
@[simp] theorem e_pair (i j x y ρ) : tupG 2 (consG (nameG i) (consG (nameG j) nilG)) (.d (.tup [x, y])) ρ = some ((ρ.set i (some (.d x))).set j (some (.d y))) := nr rfl
theorem forF_nil (asg b ρ s) : forF asg b [] ρ s = .nx ρ s := rfl
theorem forF_cons {asg : Xv → Env' → Option Env'} {b : FS} {x : D} {xs : List D} {ρ r r2 : Env'} {s s2 : Sto} (h : asg (.d x) ρ = some r) (h2 : b r s = .nx r2 s2) : forF asg b (x :: xs) ρ s = forF asg b xs r2 s2 := by
  conv => lhs; unfold forF
  rw [h]
  dsimp only
  rw [h2]
@[simp] theorem tuple_l (xs s) : tupleX [.d (.lst xs)] s = .ok (.d (.tup xs)) s := nr rfl
@[simp] theorem list_t (xs s) : listX false [.d (.tup xs)] s = .ok (.d (.lst xs)) s := nr rfl
@[simp] theorem list_l (xs s) : listX false [.d (.lst xs)] s = .ok (.d (.lst xs)) s := nr rfl
@[simp] theorem e_finL (ys s) : finL false [] (some (ys, s)) = .ok (.d (.lst ys)) s := nr rfl
@[simp] theorem e_yes (ρ s) : yesF ρ s = .ok (.d (.bl true)) s := nr rfl
@[simp] theorem e_tupF (g ρ s) : tupF g ρ s = (g ρ s).bind fun xs s1 => match pureAll xs with
  | some ds => if ds.length ≤ 1000000 then .ok (.d (.tup ds)) s1 else .stuck
  | none => .stuck := nr rfl
@[simp] theorem e_lstF (m g ρ s) : lstF m g ρ s = (g ρ s).bind fun xs s1 => match pureAll xs with
  | some ds => if ds.length ≤ 1000000 then mkL m ds s1 else .stuck
  | none => .stuck := nr rfl
@[simp] theorem pure_n : pureAll [] = some [] := nr rfl
@[simp] theorem pure_c (x xs) : pureAll (.d x :: xs) = (pureAll xs).map (x :: ·) := by
  show (match pureAll xs with | some r => some (x :: r) | none => none) = _
  cases pureAll xs <;> rfl
@[simp] theorem mkL_f (xs s) : mkL false xs s = .ok (.d (.lst xs)) s := nr rfl
@[simp] theorem mkL_t (xs s) : mkL true xs s = .ok (.ref s.length) (s ++ [.lst xs]) := nr rfl
theorem mul_tup (m) (a : List D) (k : Int) (s) (h : -1000 ≤ k ∧ k ≤ 1000 ∧ a.length ≤ 1000) : mulX m (.d (.tup a)) (.d (.int k)) s = .ok (.d (.tup (List.replicate k.toNat a).flatten)) s := if_pos h
theorem add_tup (m) (a b : List D) (s) (h : a.length + b.length ≤ 100000) : addX m (.d (.tup a)) (.d (.tup b)) s = .ok (.d (.tup (a ++ b))) s := if_pos (by rw [sizeLine_eq]; omega)
theorem add_lst (m) (a b : List D) (s) (h : a.length + b.length ≤ 100000) : addX m (.d (.lst a)) (.d (.lst b)) s = mkL m (a ++ b) s := if_pos (by rw [sizeLine_eq]; omega)
theorem rep_flat (n : Nat) (c : D) : (List.replicate n [c]).flatten = List.replicate n c := by
  induction n with
  | zero => rfl
  | succ n ih => rw [List.replicate_succ, List.flatten_cons, ih, List.replicate_succ]; rfl
theorem eq_nn (n s) : eqX n (.d (.lst [])) (.d (.lst [])) s = .ok (.d (.bl !n)) s := by cases n <;> rfl
theorem rngD_succ (lo : Int) (n : Nat) : rngD lo (n + 1) = .int lo :: rngD (lo + 1) n := by
  unfold rngD
  rw [List.range_succ_eq_map, List.map_cons, List.map_map]
  congr 1
  · simp
  · apply List.map_congr_left
    intro a _
    simp
    omega
theorem compN_rng {asg : Xv → Env' → Option Env'} {f : FE} {ρ : Env'} {s : Sto} : ∀ (zs : List D) (lo : Int), (∀ (j : Nat) (v : D), zs[j]? = some v → ∃ r, asg (.d (.int (lo + j))) ρ = some r ∧ f r s = .ok (.d v) s) → compN asg yesF f ρ (rngD lo zs.length) s = some (zs, s)
  | [], lo, _ => rfl
  | z :: zs, lo, h => by
    obtain ⟨r, e1, e2⟩ := h 0 z rfl
    have e5 := compN_rng zs (lo + 1) (fun j v k => by
      have q := h (j + 1) v k
      rw [show lo + ((j + 1 : Nat) : Int) = lo + 1 + j by push_cast; omega] at q
      exact q)
    rw [List.length_cons, rngD_succ]
    unfold compN
    rw [show lo + ((0 : Nat) : Int) = lo by simp] at e1
    rw [e1]
    show (match f r s with
          | .ok (.d y) s2 => match compN asg yesF f ρ (rngD (lo + 1) zs.length) s2 with
            | some (ys, s3) => some (y :: ys, s3)
            | none => none
          | _ => none) = _
    rw [e2]
    dsimp only
    rw [e5]
theorem at_nat {α : Type} {xs : List α} {j : Nat} {v : α} (h : xs[j]? = some v) : atI xs (j : Int) = some v := by
  have hj := (List.getElem?_eq_some_iff.mp h).1
  unfold atI ixN
  rw [if_pos (by omega), if_pos (by omega)]
  exact h
theorem ix_t {xs : List D} {j : Nat} {v : D} {s} (h : xs[j]? = some v) : ixX (.d (.tup xs)) (.d (.int (j : Int))) s = .ok (.d v) s := by
  show (match atI xs (j : Int) with | some v => Res.ok (.d v) s | none => .stuck) = _
  rw [at_nat h]
theorem ix_l {xs : List D} {j : Nat} {v : D} {s} (h : xs[j]? = some v) : ixX (.d (.lst xs)) (.d (.int (j : Int))) s = .ok (.d v) s := by
  show (match atI xs (j : Int) with | some v => Res.ok (.d v) s | none => .stuck) = _
  rw [at_nat h]
theorem allInts_ns : ∀ (xs : List Int), allInts (nsD xs) = some xs
  | [] => rfl
  | x :: xs => by
    show (match allInts (nsD xs) with | some r => some (x :: r) | none => none) = _
    rw [allInts_ns xs]
@[simp] theorem sum_ns (xs : List Int) (s) : sumX [.d (.lst (nsD xs))] s = .ok (.d (.int xs.sum)) s := by
  show (match allInts (nsD xs) with | some ns => okI ns.sum s | none => .stuck) = _
  rw [allInts_ns]
  rfl
def IsN (b : Int) (y : D) : Prop := ∃ r, y = .int r ∧ 0 ≤ r ∧ r < b
theorem isN_ns {b : Int} : ∀ {ys : List D}, (∀ y ∈ ys, IsN b y) → ∃ zs, ys = nsD zs ∧ ∀ z ∈ zs, 0 ≤ z ∧ z < b
  | [], _ => ⟨[], rfl, (fun z hz => nomatch hz)⟩
  | y :: ys, h => by
    obtain ⟨zs, rfl, h2⟩ := isN_ns (ys := ys) (fun y hy => h y (List.mem_cons_of_mem _ hy))
    obtain ⟨r, rfl, h3⟩ := h y (List.mem_cons_self ..)
    refine ⟨r :: zs, rfl, fun z hz => ?_⟩
    rcases List.mem_cons.mp hz with rfl | hz
    · exact h3
    · exact h2 z hz
abbrev tp60 : Int := 1000000000000000000000000000000000000000000000000000000000000
mutual
theorem eqv_r : ∀ {n : Nat} {d : D}, flatS n d = true → PyData.eqv (toP d) (toP d) = true
  | n, .non, _ => by unfold toP PyData.eqv; rfl
  | n, .bl b, _ => by unfold toP PyData.eqv; exact beq_self_eq_true b
  | n, .int i, _ => by unfold toP PyData.eqv; exact beq_self_eq_true i
  | n, .str x, _ => by unfold toP PyData.eqv; exact beq_self_eq_true x
  | 0, .tup xs, h => by cases h
  | 0, .lst xs, h => by cases h
  | n + 1, .tup xs, h => by
    unfold toP PyData.eqv
    exact eqv_rs (n := n) (List.all_eq_true.mp h)
  | n + 1, .lst xs, h => by
    unfold toP PyData.eqv
    exact eqv_rs (n := n) (List.all_eq_true.mp h)
  | n, .ty _, h => by cases n <;> cases h
  | n, .adr _, h => by cases n <;> cases h
  | n, .cls _, h => by cases n <;> cases h
  | n, .scr _, h => by cases n <;> cases h
  | n, .obj _ _ _, h => by cases n <;> cases h
  | n, .exc _ _ _, h => by cases n <;> cases h
theorem eqv_rs : ∀ {n : Nat} {ds : List D}, (∀ x ∈ ds, flatS n x = true) → PyData.eqvAll (toPs ds) (toPs ds) = true
  | n, [], _ => by unfold toPs PyData.eqvAll; rfl
  | n, d :: ds, h => by
    unfold toPs PyData.eqvAll
    rw [eqv_r (h d (List.mem_cons_self ..)), eqv_rs (n := n) (fun x hx => h x (List.mem_cons_of_mem _ hx))]
    rfl
end
theorem eqX_r (m : Bool) {d : D} (s) (h : flatS 32 d = true) : eqX m (.d d) (.d d) s = .ok (.d (.bl (!m))) s := by
  unfold eqX eqView
  dsimp only
  rw [if_pos (by rw [h]; rfl), eqv_r h]
  cases m <;> rfl
theorem flat_ns {n : Nat} (xs : List Int) : flatS (n + 1) (.tup (nsD xs)) = true := by
  unfold flatS
  rw [List.all_eq_true]
  intro x hx
  obtain ⟨k, _, rfl⟩ := List.mem_map.mp hx
  cases n <;> rfl
theorem setg_ne {ρ : Env'} {i j : Nat} {x : Option Xv} (h : i ≠ j) : (ρ.set i x)[j]? = ρ[j]? := List.getElem?_set_ne h
theorem setg_self {ρ : Env'} {i : Nat} {x : Option Xv} (h : i < ρ.length) : (ρ.set i x)[i]? = some x := List.getElem?_set_self h
theorem v_at {ρ : Env'} {i : Nat} {x : Xv} {s} (h : ρ[i]? = some (some x)) : varF i ρ s = .ok x s := by
  rw [e_var, h]
theorem at_ns {g : List Int} {p : Nat} (h : p < g.length) : (nsD g)[p]? = some (.int (g.getD p 0)) := by
  rw [List.getElem?_map, List.getD_eq_getElem?_getD, List.getElem?_eq_getElem h]
  rfl
theorem seq_go {a b : FS} {ρ r : Env'} {s s2 : Sto} {x : Out} (h : a ρ s = .nx r s2) (k : b r s2 = x) : seqS a b ρ s = x := by
  rw [e_seq, h]
  exact k
theorem compN_get {asg : Xv → Env' → Option Env'} {f : FE} {ρ : Env'} {s : Sto} : ∀ (xs zs : List D), xs.length = zs.length → (∀ (j : Nat) (x z : D), xs[j]? = some x → zs[j]? = some z → ∃ r, asg (.d x) ρ = some r ∧ f r s = .ok (.d z) s) → compN asg yesF f ρ xs s = some (zs, s)
  | [], [], _, _ => rfl
  | [], _ :: _, h, _ => by cases h
  | _ :: _, [], h, _ => by cases h
  | x :: xs, z :: zs, hl, h => by
    obtain ⟨r, e1, e2⟩ := h 0 x z rfl rfl
    have e5 := compN_get xs zs (by simpa using hl) (fun j v k hv hk => h (j + 1) v k hv hk)
    unfold compN
    rw [e1]
    show (match f r s with
          | .ok (.d y) s2 => match compN asg yesF f ρ xs s2 with
            | some (ys, s3) => some (y :: ys, s3)
            | none => none
          | _ => none) = _
    rw [e2]
    dsimp only
    rw [e5]
theorem compN_none {asg : Xv → Env' → Option Env'} {t f : FE} {ρ : Env'} {s : Sto} : ∀ (xs : List D), (∀ x ∈ xs, ∃ r, asg (.d x) ρ = some r ∧ t r s = .ok (.d (.bl false)) s) → compN asg t f ρ xs s = some ([], s)
  | [], _ => rfl
  | x :: xs, h => by
    obtain ⟨r, e1, e2⟩ := h x (List.mem_cons_self ..)
    have e5 := compN_none (t := t) (f := f) xs (fun y hy => h y (List.mem_cons_of_mem _ hy))
    unfold compN
    rw [e1]
    dsimp only
    rw [e2]
    exact e5
theorem cut_lo {α : Type} {xs : List α} {j : Nat} (h : j ≤ xs.length) : cutD xs none (some (j : Int)) = xs.take j := by
  unfold cutD
  rw [HT.sIx_none, HT.sIx_nat, Nat.min_eq_left h]
  rfl
theorem cut_hi {α : Type} {xs : List α} {j : Nat} (h : j ≤ xs.length) : cutD xs (some (j : Int)) none = xs.drop j := by
  unfold cutD
  rw [HT.sIx_none, HT.sIx_nat, Nat.min_eq_left h]
  exact List.take_of_length_le (by rw [List.length_drop]; exact Nat.le_refl _)
theorem e_sl_lo {xs : List D} {j : Nat} (m s) (h : j ≤ xs.length) : slX m (.d (.tup xs)) (.d .non) (.d (.int (j : Int))) s = .ok (.d (.tup (xs.take j))) s := by
  show Res.ok (.d (.tup (cutD xs none (some (j : Int))))) s = _
  rw [cut_lo h]
theorem e_sl_hi {xs : List D} {j : Nat} (m s) (h : j ≤ xs.length) : slX m (.d (.tup xs)) (.d (.int (j : Int))) (.d .non) s = .ok (.d (.tup (xs.drop j))) s := by
  show Res.ok (.d (.tup (cutD xs (some (j : Int)) none))) s = _
  rw [cut_hi h]
theorem e_app {g : FA} {ρ : Env'} {s : Sto} {fv : FE} {i : Nat} {xs : List D} {y : D} (h : fv ρ s = .ok (.ref i) s) (h2 : g ρ s = .ok [.d y] s) (h3 : s[i]? = some (.lst xs)) (h4 : xs.length < 1000000) : appF fv g ρ s = .ok (.d .non) (s.set i (.lst (xs ++ [y]))) := by
  unfold appF
  rw [h, e_b]
  dsimp only
  rw [h3]
  dsimp only
  rw [h2, e_bL]
  dsimp only
  rw [h3]
  dsimp only
  rw [if_pos h4]
theorem nat_of {r : Int} {b : Nat} (h : 0 ≤ r) (h2 : r < b) : ∃ j : Nat, r = j ∧ j < b := ⟨r.toNat, by omega, by omega⟩
@[simp] theorem e_asg (asg) (f : FE) (ρ s) : asgS asg f ρ s = (f ρ s).bindS ρ fun v s1 => match asg v ρ with | some r => .nx r s1 | none => .stuck := nr rfl
theorem pow18 (s) : powX (.d (.int 10)) (.d (.int 18)) s = .ok (.d (.int 1000000000000000000)) s := by
  show (if cPow 10 18 = true then Res.ok (.d (.int (10 ^ (18 : Int).toNat))) s else .stuck) = _
  rw [if_pos (by decide +kernel), show ((10 : Int) ^ (18 : Int).toNat) = 1000000000000000000 by decide +kernel]
theorem pow60 (s) : powX (.d (.int 10)) (.d (.int 60)) s = .ok (.d (.int tp60)) s := by
  show (if cPow 10 60 = true then Res.ok (.d (.int (10 ^ (60 : Int).toNat))) s else .stuck) = _
  rw [if_pos (by decide +kernel), show ((10 : Int) ^ (60 : Int).toNat) = tp60 by decide +kernel]
theorem pow600 : ∃ b : Int, 0 < b ∧ ∀ s, powX (.d (.int tp60)) (.d (.int 10)) s = .ok (.d (.int b)) s :=
  ⟨tp60 ^ (10 : Int).toNat, by decide +kernel, fun s => by
    show (if cPow tp60 10 = true then Res.ok (.d (.int (tp60 ^ (10 : Int).toNat))) s else .stuck) = _
    rw [if_pos (by decide +kernel)]⟩
@[simp] theorem e_max (i j s) : maxX [.d (.int i), .d (.int j)] s = .ok (.d (.int (if j > i then j else i))) s := nr rfl
theorem len_scr (a s) : lenX [.d (.scr a)] s = .ok (.d (.int a.length)) s := nr rfl
theorem ix_scr {xs : List Int} {j : Nat} {v : Int} {s} (h : xs[j]? = some v) : ixX (.d (.scr xs)) (.d (.int (j : Int))) s = .ok (.d (.int v)) s := by
  show (match atI xs (j : Int) with | some v => okI v s | none => .stuck) = _
  rw [at_nat h]
  rfl
theorem sl_scr (xs : List Int) (s) : slX false (.d (.scr xs)) (.d .non) (.d (.int 1)) s = .ok (.d (.lst (nsD (cutD xs none (some 1))))) s := nr rfl
/-- the bounds that are asked for -/
structure BdOk (bd : Int) (t : Nat) : Prop where
  pos : 0 < bd
  lg : bd.natAbs.log2 < 9000
  tn : 1 + (Builtin.Int.intBits bd : Int) / 30 = (t : Int)
  le : t ≤ 4
theorem bd3 : BdOk 3 1 := ⟨by decide, by decide +kernel, by decide +kernel, by decide⟩
theorem bd4 : BdOk 4 1 := ⟨by decide, by decide +kernel, by decide +kernel, by decide⟩
theorem bd5 : BdOk 5 1 := ⟨by decide, by decide +kernel, by decide +kernel, by decide⟩
theorem bd9 : BdOk 9 1 := ⟨by decide, by decide +kernel, by decide +kernel, by decide⟩
theorem bd25 : BdOk (10 ^ 25) 3 := ⟨by decide, by decide +kernel, by decide +kernel, by decide⟩
theorem bd30 : BdOk (10 ^ 30) 4 := ⟨by decide, by decide +kernel, by decide +kernel, by decide⟩
end FL

set_option Elab.async false
set_option linter.all false
set_option maxRecDepth 100000
set_option maxHeartbeats 1000000
namespace FL
open PySem PySem.Spec PyProof.Rows L2
/-! ### instances -/
@[simp] theorem e_meth (r c m F dv f g ρ s) : methF r c m F dv f g ρ s = (f ρ s).bind fun x s1 => match insV x s1 with
  | some (k, ns, _) => if k = c ∧ ns.contains m = false then (g ρ s1).bind fun xs s2 => runC r F (x :: (xs ++ dv.map .d)) s2 else .stuck
  | none => .stuck := nr rfl
@[simp] theorem e_fldF (own n f ρ s) : fldF own n f ρ s = (f ρ s).bind fun x s1 => match insV x s1 with
  | some (c, ns, vs) => match getN ns vs n with
    | some d => if own c = true then .ok (.d d) s1 else .stuck
    | none => .stuck
  | none => .stuck := nr rfl
@[simp] theorem insV_o (c ns vs s) : insV (.d (.obj c ns vs)) s = some (c, ns, vs) := nr rfl
@[simp] theorem e_make (m c F dv g ρ s) : makeF m c F dv g ρ s = (g ρ s).bind fun xs s1 => runM m c F (xs ++ dv.map .d) s1 := nr rfl
@[simp] theorem getN_1 (n v) : getN [n] [v] n = some v := by unfold getN; simp
theorem runM_d {c : Nat} {F : Fn} {xs : List Xv} {s s2 : Sto} {k : Nat} {ns : List Str} {vs : List D} (h : F (.ref 0 :: xs) [.ins c [] []] = .ok (.d .non) (.ins k ns vs :: s2)) (h0 : refsOf xs = []) : runM false c F xs s = .ok (.d (.obj k ns vs)) s := by
  unfold runM
  rw [h0]
  dsimp only
  rw [h]
  rfl
theorem runM_x {m : Bool} {c : Nat} {F : Fn} {xs : List Xv} {s s2 : Sto} {e : D} (h : F (.ref 0 :: xs) [.ins c [] []] = .exc e s2) (h0 : refsOf xs = []) : runM m c F xs s = .exc e s := by
  unfold runM
  rw [h0]
  dsimp only
  rw [h]
theorem run0_x {m : Bool} {F : Fn} {xs : List Xv} {s s2 : Sto} {e : D} (h : F xs [] = .exc e s2) (h0 : refsOf xs = []) : runC m F xs s = .exc e s := by
  unfold runC
  rw [h0]
  dsimp only
  unfold run0
  rw [h]
theorem run0_l {F : Fn} {xs : List Xv} {s s2 : Sto} {j : Nat} {l : List D} (h : F xs [] = .ok (.ref j) s2) (h2 : s2[j]? = some (.lst l)) (h0 : refsOf xs = []) : runC false F xs s = .ok (.d (.lst l)) s := by
  unfold runC
  rw [h0]
  dsimp only
  unfold run0
  rw [h]
  dsimp only
  rw [h2]
  rfl
@[simp] theorem e_lcm (i j s) : lcmX [.d (.int i), .d (.int j)] s = if i.natAbs < 2 ^ 64 ∧ j.natAbs < 2 ^ 64 then .ok (.d (.int ((i.natAbs.lcm j.natAbs : Nat) : Int))) s else .stuck := nr rfl
@[simp] theorem e_par2 (i j g ρ s) : par2S i j g ρ s = match g ρ s with
  | .ok [x, y] s1 => .nx ((ρ.set i (some x)).set j (some y)) s1
  | .ok _ _ => .stuck
  | .exc e s1 => .exc e ρ s1
  | .stuck => .stuck := by
  unfold par2S
  cases g ρ s with
  | ok v s1 =>
    match v with
    | [] => rfl
    | [_] => rfl
    | [_, _] => rfl
    | _ :: _ :: _ :: _ => rfl
  | exc e s1 => rfl
  | stuck => rfl
/-! ### trees of numbers -/
mutual
def intT : D → Bool
  | .int _ => true
  | .bl _ => false
  | .tup xs => intTs xs
  | .lst xs => intTs xs
  | _ => false
def intTs : List D → Bool
  | [] => true
  | x :: xs => intT x && intTs xs
end
mutual
theorem beqD_r : ∀ {x : D}, intT x = true → beqD x x = true := by
  intro x h
  cases x <;> simp only [intT, Bool.false_eq_true] at h <;> simp only [beqD, beq_self_eq_true] <;> exact beqDs_r h
theorem beqDs_r : ∀ {xs : List D}, intTs xs = true → beqDs xs xs = true := by
  intro xs h
  cases xs with
  | nil => rfl
  | cons x xs =>
    simp only [intTs, Bool.and_eq_true] at h
    simp only [beqDs, beqD_r h.1, beqDs_r h.2, Bool.and_self]
end
mutual
theorem eqv_b : ∀ {x y : D}, intT x = true → intT y = true → PyData.eqv (toP x) (toP y) = beqD x y := by
  intro x y hx hy
  cases x <;> simp only [intT, Bool.false_eq_true] at hx <;> cases y <;> simp only [intT, Bool.false_eq_true] at hy <;> simp only [toP, PyData.eqv, beqD] <;> exact eqvs_b hx hy
theorem eqvs_b : ∀ {xs ys : List D}, intTs xs = true → intTs ys = true → PyData.eqvAll (toPs xs) (toPs ys) = beqDs xs ys := by
  intro xs ys hx hy
  cases xs with
  | nil => cases ys <;> simp only [toPs, PyData.eqvAll, beqDs]
  | cons x xs =>
    cases ys with
    | nil => simp only [toPs, PyData.eqvAll, beqDs]
    | cons y ys =>
      simp only [intTs, Bool.and_eq_true] at hx hy
      simp only [toPs, PyData.eqvAll, beqDs, eqv_b hx.1 hy.1, eqvs_b hx.2 hy.2]
end
theorem eqX_t (m : Bool) {x y : D} (s) (hx : intT x = true) (hy : intT y = true) (fx : flatS 32 x = true) (fy : flatS 32 y = true) : eqX m (.d x) (.d y) s = .ok (.d (.bl (if m then !beqD x y else beqD x y))) s := by
  unfold eqX eqView
  dsimp only
  rw [if_pos (by rw [fx, fy]; rfl), eqv_b hx hy]
  rfl
/-! ### a loop that looks for something -/
theorem forF_find {asg : Xv → Env' → Option Env'} {b : FS} {v : Xv} (I : Env' → Sto → Prop) (bad : D → Bool) : ∀ (xs : List D) {ρ : Env'} {s : Sto}, I ρ s → (∀ x ∈ xs, ∀ ρ s, I ρ s → ∃ r, asg (.d x) ρ = some r ∧ (bad x = true → ∃ s', b r s = .rt v s' ∧ I ρ s') ∧ (bad x = false → ∃ r' s', b r s = .nx r' s' ∧ I r' s')) →
    (xs.any bad = true → ∃ ρ' s', forF asg b xs ρ s = .rt v s' ∧ I ρ' s') ∧ (xs.any bad = false → ∃ ρ' s', forF asg b xs ρ s = .nx ρ' s' ∧ I ρ' s')
  | [], ρ, s, h0, _ => ⟨fun h => (Bool.false_ne_true h).elim, fun _ => ⟨ρ, s, rfl, h0⟩⟩
  | x :: xs, ρ, s, h0, hs => by
    obtain ⟨r, e1, e2, e3⟩ := hs x (List.mem_cons_self ..) ρ s h0
    cases hb : bad x with
    | true =>
      obtain ⟨s', e4, e5⟩ := e2 hb
      refine ⟨fun _ => ⟨ρ, s', ?_, e5⟩, fun h => ?_⟩
      · unfold forF
        rw [e1]
        dsimp only
        rw [e4]
      · rw [List.any_cons, hb] at h
        cases h
    | false =>
      obtain ⟨r', s', e4, e5⟩ := e3 hb
      obtain ⟨k1, k2⟩ := forF_find I bad xs e5 (fun y hy => hs y (List.mem_cons_of_mem _ hy))
      have e6 : forF asg b (x :: xs) ρ s = forF asg b xs r' s' := forF_cons e1 e4
      rw [List.any_cons, hb, Bool.false_or, e6]
      exact ⟨k1, k2⟩
end FL

set_option Elab.async false
set_option linter.all false
set_option maxRecDepth 100000
set_option maxHeartbeats 1000000
namespace FL
open PySem PySem.Spec PyProof.Rows L2
def top (i : Nat) : Stmt := PySem.Challenge.pw_openloops_k10_grids_that_refine.main.body.getD i (.Pass ⟨0, 0, 0, 0⟩)
def mth (i j : Nat) : Stmt := match top i with | .ClassDef _ _ _ b _ _ _ _ _ _ _ => b.getD j (.Pass ⟨0, 0, 0, 0⟩) | s => s
def nC : Nat := 7
def subB (c k : Nat) : Bool := c == k || (k == 0 && decide (c < 6))
def ownB (c : Nat) : Bool := decide (6 ≤ c) && decide (c < 7)
def exB (c : Nat) : Bool := decide (c < 6)
abbrev tx (K : PySem.W.Frag) (ct : Nat → Addr) : Tx := ⟨K, ct, nC, subB⟩
structure Tb (P : Program) (K : PySem.W.Frag) (mg : Str → Option Value) (ct : Nat → Addr) : Prop where
  txo : TxOk (tx K ct) ownB
  tex : TxEx (tx K ct) exB
  tcl : TxCl (tx K ct) ownB
  n__limits : ∀ c, ownB c = true → NoAttr K (ct c) "_limits"
  g_bool : mg "bool" = none
  g_int : mg "int" = none
  g_isinstance : mg "isinstance" = none
  g_len : mg "len" = none
  g_list : mg "list" = none
  g_max : mg "max" = none
  g_range : mg "range" = none
  g_sum : mg "sum" = none
  g_super : mg "super" = none
  g_tuple : mg "tuple" = none
  g_zip : mg "zip" = none
  mb_lcm : mg "lcm" = some (.builtin "math.lcm")
  c_MOST_CLASSES : ∃ t, mg "MOST_CLASSES" = some (.int 600 t)
  c_MOST_UNKNOWNS : ∃ t, mg "MOST_UNKNOWNS" = some (.int 3 t)
  m_LoopError : mg "LoopError" = some (.ref (ct 0))
  m_InvalidPoint : mg "InvalidPoint" = some (.ref (ct 1))
  m_InvalidList : mg "InvalidList" = some (.ref (ct 2))
  m_InvalidGrid : mg "InvalidGrid" = some (.ref (ct 3))
  m_Unlike : mg "Unlike" = some (.ref (ct 4))
  m_TooMany : mg "TooMany" = some (.ref (ct 5))
  m_Grid : mg "Grid" = some (.ref (ct 6))
  e_InvalidPoint : ∃ f, ErrTxt P K (ct 1) f
  e_InvalidList : ∃ f, ErrTxt P K (ct 2) f
  e_InvalidGrid : ∃ f, ErrTxt P K (ct 3) f
  e_Unlike : ∃ f, ErrTxt P K (ct 4) f
  e_TooMany : ∃ f, ErrTxt P K (ct 5) f
theorem Cn.tr {T : Tx} {X : Cx} {W W2 : WX} {k : Nat} {pn : List (Addr × Obj)} {xe : Value → Shared → Prop} (C : Cn T X W k) (tk : Takes (X.tr pn xe) W2) : Cn T (X.tr pn xe) W2 k := ⟨C.hK, C.hr, tk, C.calm, C.nd⟩
section
variable {P : Program} {w : World} {K : PySem.W.Frag} {mg : Str → Option Value} {base : Heap} {ct : Nat → Addr}
/-! is_whole -/
def N_is_whole : List Str := ["value"]
def P_is_whole : List Str := ["value"]
def S_is_whole : FS := (retS (andF (callBF (isEX nC subB ownB exB) (consA (varF 0) (consA (litF (.ty "int")) nilA))) (notF (callBF (isEX nC subB ownB exB) (consA (varF 0) (consA (litF (.ty "bool")) nilA))))))
def F_is_whole : Fn := bodyF 0 S_is_whole
theorem sc_is_whole : FnScope N_is_whole P_is_whole (defScope (top 10)) := ⟨rfl, rfl, rfl, by decide +kernel, rfl, by decide +kernel, by decide +kernel⟩
theorem b_is_whole (B : Tb P K mg ct) (q : Qx) (W : WX) (hr : RoomG 0 q.A) (tk : Takes (mkX P w K mg base N_is_whole (defScope (top 10)) q) W) (hp : PassesOwn (model P w) q.A (enX (defScope (top 10)) q) q.xe) :
    PFSs (tx K ct) (mkX P w K mg base N_is_whole (defScope (top 10)) q) W (defBody (top 10)) S_is_whole :=
  have C : Cn (tx K ct) (mkX P w K mg base N_is_whole (defScope (top 10)) q) W 0 := ⟨rfl, hr, tk, rfl, sc_is_whole.nd⟩
  (pfs_one (pfs_ret (pf_and (pf_callB (b_isi C) (isEX_ok B.txo B.tex) B.g_isinstance bt_isinstance (pfa_cons (pf_var 0) (pfa_cons (pf_ty B.g_int bt_int) pfa_nil))) (pf_one (pf_not (pf_callB (b_isi C) (isEX_ok B.txo B.tex) B.g_isinstance bt_isinstance (pfa_cons (pf_var 0) (pfa_cons (pf_ty B.g_bool bt_bool) pfa_nil))))))))
/-! is_between -/
def N_is_between : List Str := ["value", "low", "high"]
def P_is_between : List Str := ["value", "low", "high"]
def S_is_between : FS := (retS (andF (callF false F_is_whole [] (consA (varF 0) nilA)) (andF (op2F (leX) (varF 1) (varF 0)) (orF (op2F (isNoneX false) (varF 2) (litF .non)) (op2F (leX) (varF 0) (varF 2))))))
def F_is_between : Fn := bodyF 0 S_is_between
theorem sc_is_between : FnScope N_is_between P_is_between (defScope (top 11)) := ⟨rfl, rfl, rfl, by decide +kernel, rfl, by decide +kernel, by decide +kernel⟩
theorem b_is_between (B : Tb P K mg ct) (hD_is_whole : Def (tx K ct) P w K mg base 1 "is_whole" ["value"] [] F_is_whole) (q : Qx) (W : WX) (hr : RoomG 1 q.A) (tk : Takes (mkX P w K mg base N_is_between (defScope (top 11)) q) W) (hp : PassesOwn (model P w) q.A (enX (defScope (top 11)) q) q.xe) :
    PFSs (tx K ct) (mkX P w K mg base N_is_between (defScope (top 11)) q) W (defBody (top 11)) S_is_between :=
  have C : Cn (tx K ct) (mkX P w K mg base N_is_between (defScope (top 11)) q) W 1 := ⟨rfl, hr, tk, rfl, sc_is_between.nd⟩
  (pfs_one (pfs_ret (pf_and (pf_callD false hD_is_whole C (pfa_cons (pf_var 0) pfa_nil) (len_cons len_nil)) (pf_and (pf_cmp op_le int2B_ok (pf_var 1) (pf_var 0) (nomark _)) (pf_one (pf_or (pf_cmp op_isN isNone_ok (pf_var 2) pf_non (nomark _)) (pf_one (pf_cmp op_le int2B_ok (pf_var 0) (pf_var 2) (nomark _)))))))))
/-! are_counts -/
def N_are_counts : List Str := ["items", "item"]
def P_are_counts : List Str := ["items"]
def T0_are_counts : FE := (notF (callF false F_is_between [] (consA (varF 1) (consA (litF (.int 0)) (consA (litF .non) nilA)))))
def E1_are_counts : FE := (varF 1)
def S_are_counts : FS := (retS (op2F (eqX false) (lcF false [1] (nameG 1) (iterF (varF 0)) T0_are_counts E1_are_counts) (lstF false nilA)))
def F_are_counts : Fn := bodyF 1 S_are_counts
theorem sc_are_counts : FnScope N_are_counts P_are_counts (defScope (top 12)) := ⟨rfl, rfl, rfl, by decide +kernel, rfl, by decide +kernel, by decide +kernel⟩
theorem b_are_counts (B : Tb P K mg ct) (hD_is_between : Def (tx K ct) P w K mg base 2 "is_between" ["value", "low", "high"] [] F_is_between) (q : Qx) (W : WX) (hr : RoomG 2 q.A) (tk : Takes (mkX P w K mg base N_are_counts (defScope (top 12)) q) W) (hp : PassesOwn (model P w) q.A (enX (defScope (top 12)) q) q.xe) :
    PFSs (tx K ct) (mkX P w K mg base N_are_counts (defScope (top 12)) q) W (defBody (top 12)) S_are_counts :=
  have C : Cn (tx K ct) (mkX P w K mg base N_are_counts (defScope (top 12)) q) W 2 := ⟨rfl, hr, tk, rfl, sc_are_counts.nd⟩
  (pfs_one (pfs_ret (pf_cmp (o_eq C) eq_ok (pf_lc (own := [("item", 1)]) false C.calm C.nd (pfi_seq C.hK (pf_var 0)) (blkOk_by (by first | decide +kernel | rfl)) (fun _ _ _ _ _ => (pfg_name (i := 1) (Cn.blk C _ _ _ _ _).nd)) (fun _ _ _ _ _ => (pts_1 (pft_not (pft_of (Cn.blk C _ _ _ _ _).hK (pf_callD false hD_is_between (Cn.blk C _ _ _ _ _) (pfa_cons (pf_var 1) (pfa_cons pf_int (pfa_cons pf_non pfa_nil))) (len_cons (len_cons (len_cons len_nil)))))))) (fun _ _ _ _ _ => (pf_var 1))) (pf_lst false pfa_nil) (nomark _))))
/-! is_point -/
def N_is_point : List Str := ["many", "value"]
def P_is_point : List Str := ["many", "value"]
def S_is_point : FS := (retS (andF (callBF (isEX nC subB ownB exB) (consA (varF 1) (consA (litF (.ty "list")) nilA))) (andF (op2F (eqX false) (callBF lenX (consA (varF 1) nilA)) (varF 0)) (callF false F_are_counts [] (consA (varF 1) nilA)))))
def F_is_point : Fn := bodyF 0 S_is_point
theorem sc_is_point : FnScope N_is_point P_is_point (defScope (top 13)) := ⟨rfl, rfl, rfl, by decide +kernel, rfl, by decide +kernel, by decide +kernel⟩
theorem b_is_point (B : Tb P K mg ct) (hD_are_counts : Def (tx K ct) P w K mg base 3 "are_counts" ["items"] [] F_are_counts) (q : Qx) (W : WX) (hr : RoomG 3 q.A) (tk : Takes (mkX P w K mg base N_is_point (defScope (top 13)) q) W) (hp : PassesOwn (model P w) q.A (enX (defScope (top 13)) q) q.xe) :
    PFSs (tx K ct) (mkX P w K mg base N_is_point (defScope (top 13)) q) W (defBody (top 13)) S_is_point :=
  have C : Cn (tx K ct) (mkX P w K mg base N_is_point (defScope (top 13)) q) W 3 := ⟨rfl, hr, tk, rfl, sc_is_point.nd⟩
  (pfs_one (pfs_ret (pf_and (pf_callB (b_isi C) (isEX_ok B.txo B.tex) B.g_isinstance bt_isinstance (pfa_cons (pf_var 1) (pfa_cons (pf_ty B.g_list bt_list) pfa_nil))) (pf_and (pf_cmp (o_eq C) eq_ok (pf_callB (b_len C) len_ok B.g_len bt_len (pfa_cons (pf_var 1) pfa_nil)) (pf_var 0) (nomark _)) (pf_one (pf_callD false hD_are_counts C (pfa_cons (pf_var 1) pfa_nil) (len_cons len_nil)))))))
/-! check_point -/
def N_check_point : List Str := ["many", "point"]
def P_check_point : List Str := ["many", "point"]
def S_check_point : FS := (ifS (notF (callF false F_is_point [] (consA (varF 0) (consA (varF 1) nilA)))) (raiseS 1 (varF 1)) skipS)
def F_check_point : Fn := bodyF 0 S_check_point
theorem sc_check_point : FnScope N_check_point P_check_point (defScope (top 14)) := ⟨rfl, rfl, rfl, by decide +kernel, rfl, by decide +kernel, by decide +kernel⟩
theorem b_check_point (B : Tb P K mg ct) (hD_is_point : Def (tx K ct) P w K mg base 4 "is_point" ["many", "value"] [] F_is_point) (q : Qx) (W : WX) (hr : RoomG 4 q.A) (tk : Takes (mkX P w K mg base N_check_point (defScope (top 14)) q) W) (hp : PassesOwn (model P w) q.A (enX (defScope (top 14)) q) q.xe) :
    PFSs (tx K ct) (mkX P w K mg base N_check_point (defScope (top 14)) q) W (defBody (top 14)) S_check_point :=
  have C : Cn (tx K ct) (mkX P w K mg base N_check_point (defScope (top 14)) q) W 4 := ⟨rfl, hr, tk, rfl, sc_check_point.nd⟩
  (pfs_one (pfs_if (pft_not (pft_of C.hK (pf_callD false hD_is_point C (pfa_cons (pf_var 0) (pfa_cons (pf_var 1) pfa_nil)) (len_cons (len_cons len_nil))))) (pfs_one (pfs_raise (c := 1) C.calm B.e_InvalidPoint.choose_spec rfl C.hr C.tk B.m_InvalidPoint B.g_super (pf_var 1))) pfs_nil))
/-! is_limit -/
def N_is_limit : List Str := ["value"]
def P_is_limit : List Str := ["value"]
def S_is_limit : FS := (seqS (ifS (orF (notF (callBF (isEX nC subB ownB exB) (consA (varF 0) (consA (litF (.ty "tuple")) nilA)))) (op2F (eqX true) (callBF lenX (consA (varF 0) nilA)) (litF (.int 2)))) (retS (litF (.bl false))) skipS) (retS (andF (callF false F_is_between [] (consA (op2F ixX (varF 0) (litF (.int 0))) (consA (litF (.int 0)) (consA (litF .non) nilA)))) (callF false F_is_between [] (consA (op2F ixX (varF 0) (litF (.int 1))) (consA (litF (.int 1)) (consA (litF .non) nilA)))))))
def F_is_limit : Fn := bodyF 0 S_is_limit
theorem sc_is_limit : FnScope N_is_limit P_is_limit (defScope (top 17)) := ⟨rfl, rfl, rfl, by decide +kernel, rfl, by decide +kernel, by decide +kernel⟩
theorem b_is_limit (B : Tb P K mg ct) (hD_is_between : Def (tx K ct) P w K mg base 2 "is_between" ["value", "low", "high"] [] F_is_between) (q : Qx) (W : WX) (hr : RoomG 2 q.A) (tk : Takes (mkX P w K mg base N_is_limit (defScope (top 17)) q) W) (hp : PassesOwn (model P w) q.A (enX (defScope (top 17)) q) q.xe) :
    PFSs (tx K ct) (mkX P w K mg base N_is_limit (defScope (top 17)) q) W (defBody (top 17)) S_is_limit :=
  have C : Cn (tx K ct) (mkX P w K mg base N_is_limit (defScope (top 17)) q) W 2 := ⟨rfl, hr, tk, rfl, sc_is_limit.nd⟩
  (pfs_cons (pfs_if (pft_w (pfw_or (pft_not (pft_of C.hK (pf_callB (b_isi C) (isEX_ok B.txo B.tex) B.g_isinstance bt_isinstance (pfa_cons (pf_var 0) (pfa_cons (pf_ty B.g_tuple bt_tuple) pfa_nil))))) (pfw_or1 (pft_cmp (o_ne C) ne_ok eqX_bl (pf_callB (b_len C) len_ok B.g_len bt_len (pfa_cons (pf_var 0) pfa_nil)) pf_int (nomark _))))) (pfs_one (pfs_ret pf_bl)) pfs_nil) (pfs_one (pfs_ret (pf_and (pf_callD false hD_is_between C (pfa_cons (pf_ix C.hK (pf_var 0) pf_int) (pfa_cons pf_int (pfa_cons pf_non pfa_nil))) (len_cons (len_cons (len_cons len_nil)))) (pf_one (pf_callD false hD_is_between C (pfa_cons (pf_ix C.hK (pf_var 0) pf_int) (pfa_cons pf_int (pfa_cons pf_non pfa_nil))) (len_cons (len_cons (len_cons len_nil)))))))))
/-! class_count -/
def N_class_count : List Str := ["limits", "found", "threshold", "period"]
def P_class_count : List Str := ["limits"]
def B0_class_count : FS := (setS 1 (op2F (mulX false) (varF 1) (op2F (addX false) (varF 2) (varF 3))))
def S_class_count : FS := (seqS (setS 1 (litF (.int 1))) (seqS (forS (tupG 2 (consG (nameG 2) (consG (nameG 3) nilG))) (iterF (varF 0)) B0_class_count) (retS (varF 1))))
def F_class_count : Fn := bodyF 3 S_class_count
theorem sc_class_count : FnScope N_class_count P_class_count (defScope (top 18)) := ⟨rfl, rfl, rfl, by decide +kernel, rfl, by decide +kernel, by decide +kernel⟩
theorem b_class_count (B : Tb P K mg ct) (q : Qx) (W : WX) (hr : RoomG 0 q.A) (tk : Takes (mkX P w K mg base N_class_count (defScope (top 18)) q) W) (hp : PassesOwn (model P w) q.A (enX (defScope (top 18)) q) q.xe) :
    PFSs (tx K ct) (mkX P w K mg base N_class_count (defScope (top 18)) q) W (defBody (top 18)) S_class_count :=
  have C : Cn (tx K ct) (mkX P w K mg base N_class_count (defScope (top 18)) q) W 0 := ⟨rfl, hr, tk, rfl, sc_class_count.nd⟩
  (pfs_cons (pfs_set (i := 1) C.nd pf_int) (pfs_cons (pfs_for hp C.calm (pfi_seq C.hK (pf_var 0)) (pfg_tup C.hK C.calm (pfgs_cons (pfg_name (i := 2) C.nd) (pfgs_cons (pfg_name (i := 3) C.nd) pfgs_nil))) (pfs_one (pfs_set (i := 1) C.nd (pf_mul false C.hK (pf_var 1) (pf_add false C.hK (pf_var 2) (pf_var 3)))))) (pfs_one (pfs_ret (pf_var 1)))))
/-! least_count -/
def N_least_count : List Str := ["limit", "count", "threshold", "period"]
def P_least_count : List Str := ["limit", "count"]
def S_least_count : FS := (seqS (asgS (tupG 2 (consG (nameG 2) (consG (nameG 3) nilG))) (varF 0)) (seqS (ifS (op2F (ltX) (varF 1) (varF 2)) (retS (varF 1)) skipS) (retS (op2F (addX false) (varF 2) (op2F modX (op2F subX (varF 1) (varF 2)) (varF 3))))))
def F_least_count : Fn := bodyF 2 S_least_count
theorem sc_least_count : FnScope N_least_count P_least_count (defScope (top 19)) := ⟨rfl, rfl, rfl, by decide +kernel, rfl, by decide +kernel, by decide +kernel⟩
theorem b_least_count (B : Tb P K mg ct) (q : Qx) (W : WX) (hr : RoomG 0 q.A) (tk : Takes (mkX P w K mg base N_least_count (defScope (top 19)) q) W) (hp : PassesOwn (model P w) q.A (enX (defScope (top 19)) q) q.xe) :
    PFSs (tx K ct) (mkX P w K mg base N_least_count (defScope (top 19)) q) W (defBody (top 19)) S_least_count :=
  have C : Cn (tx K ct) (mkX P w K mg base N_least_count (defScope (top 19)) q) W 0 := ⟨rfl, hr, tk, rfl, sc_least_count.nd⟩
  (pfs_cons (pfs_asg (pf_var 0) (pfg_tup C.hK C.calm (pfgs_cons (pfg_name (i := 2) C.nd) (pfgs_cons (pfg_name (i := 3) C.nd) pfgs_nil)))) (pfs_cons (pfs_if (pft_cmp op_lt int2B_ok int2_bl (pf_var 1) (pf_var 2) (nomark _)) (pfs_one (pfs_ret (pf_var 1))) pfs_nil) (pfs_one (pfs_ret (pf_add false C.hK (pf_var 2) (pf_mod (pf_sub (pf_var 1) (pf_var 2)) (pf_var 3)))))))
/-! reduced -/
def N_reduced : List Str := ["limits", "point", "limit", "count"]
def P_reduced : List Str := ["limits", "point"]
def E0_reduced : FE := (callF false F_least_count [] (consA (varF 2) (consA (varF 3) nilA)))
def S_reduced : FS := (retS (lcF false [2, 3] (tupG 2 (consG (nameG 2) (consG (nameG 3) nilG))) (zipSF (consA (varF 0) (consA (varF 1) nilA))) yesF E0_reduced))
def F_reduced : Fn := bodyF 2 S_reduced
theorem sc_reduced : FnScope N_reduced P_reduced (defScope (top 20)) := ⟨rfl, rfl, rfl, by decide +kernel, rfl, by decide +kernel, by decide +kernel⟩
theorem b_reduced (B : Tb P K mg ct) (hD_least_count : Def (tx K ct) P w K mg base 1 "least_count" ["limit", "count"] [] F_least_count) (q : Qx) (W : WX) (hr : RoomG 1 q.A) (tk : Takes (mkX P w K mg base N_reduced (defScope (top 20)) q) W) (hp : PassesOwn (model P w) q.A (enX (defScope (top 20)) q) q.xe) :
    PFSs (tx K ct) (mkX P w K mg base N_reduced (defScope (top 20)) q) W (defBody (top 20)) S_reduced :=
  have C : Cn (tx K ct) (mkX P w K mg base N_reduced (defScope (top 20)) q) W 1 := ⟨rfl, hr, tk, rfl, sc_reduced.nd⟩
  (pfs_one (pfs_ret (pf_lc (own := [("limit", 2), ("count", 3)]) false C.calm C.nd (pfi_zipS C.hK B.g_zip (pfa_cons (pf_var 0) (pfa_cons (pf_var 1) pfa_nil))) (blkOk_by (by first | decide +kernel | rfl)) (fun _ _ _ _ _ => (pfg_tup (Cn.blk C _ _ _ _ _).hK (Cn.blk C _ _ _ _ _).calm (pfgs_cons (pfg_name (i := 2) (Cn.blk C _ _ _ _ _).nd) (pfgs_cons (pfg_name (i := 3) (Cn.blk C _ _ _ _ _).nd) pfgs_nil)))) (fun _ _ _ _ _ => pts_yes) (fun _ _ _ _ _ => (pf_callD false hD_least_count (Cn.blk C _ _ _ _ _) (pfa_cons (pf_var 2) (pfa_cons (pf_var 3) pfa_nil)) (len_cons (len_cons len_nil)))))))
/-! meeting_limits -/
def N_meeting_limits : List Str := ["one", "other", "found", "low", "high"]
def P_meeting_limits : List Str := ["one", "other"]
def B0_meeting_limits : FS := (exprS (appF (varF 2) (consA (tupF (consA (callBF maxX (consA (op2F ixX (varF 3) (litF (.int 0))) (consA (op2F ixX (varF 4) (litF (.int 0))) nilA))) (consA (callBF lcmX (consA (op2F ixX (varF 3) (litF (.int 1))) (consA (op2F ixX (varF 4) (litF (.int 1))) nilA))) nilA))) nilA)))
def S_meeting_limits : FS := (seqS (setS 2 (lstF true nilA)) (seqS (forS (tupG 2 (consG (nameG 3) (consG (nameG 4) nilG))) (zipSF (consA (varF 0) (consA (varF 1) nilA))) B0_meeting_limits) (retS (varF 2))))
def F_meeting_limits : Fn := bodyF 3 S_meeting_limits
theorem sc_meeting_limits : FnScope N_meeting_limits P_meeting_limits (defScope (top 21)) := ⟨rfl, rfl, rfl, by decide +kernel, rfl, by decide +kernel, by decide +kernel⟩
theorem b_meeting_limits (B : Tb P K mg ct) (q : Qx) (W : WX) (hr : RoomG 0 q.A) (tk : Takes (mkX P w K mg base N_meeting_limits (defScope (top 21)) q) W) (hp : PassesOwn (model P w) q.A (enX (defScope (top 21)) q) q.xe) :
    PFSs (tx K ct) (mkX P w K mg base N_meeting_limits (defScope (top 21)) q) W (defBody (top 21)) S_meeting_limits :=
  have C : Cn (tx K ct) (mkX P w K mg base N_meeting_limits (defScope (top 21)) q) W 0 := ⟨rfl, hr, tk, rfl, sc_meeting_limits.nd⟩
  (pfs_cons (pfs_set (i := 2) C.nd (pf_lst true pfa_nil)) (pfs_cons (pfs_for hp C.calm (pfi_zipS C.hK B.g_zip (pfa_cons (pf_var 0) (pfa_cons (pf_var 1) pfa_nil))) (pfg_tup C.hK C.calm (pfgs_cons (pfg_name (i := 3) C.nd) (pfgs_cons (pfg_name (i := 4) C.nd) pfgs_nil))) (pfs_one (pfs_expr (pf_append C.hK (pf_var 2) (pfa_cons (pf_tup (pfa_cons (pf_callB (b_max C) max_ok B.g_max bt_max (pfa_cons (pf_ix C.hK (pf_var 3) pf_int) (pfa_cons (pf_ix C.hK (pf_var 4) pf_int) pfa_nil))) (pfa_cons (pf_callMB call_lcm lcm_ok B.mb_lcm (pfa_cons (pf_ix C.hK (pf_var 3) pf_int) (pfa_cons (pf_ix C.hK (pf_var 4) pf_int) pfa_nil))) pfa_nil))) pfa_nil))))) (pfs_one (pfs_ret (pf_var 2)))))
/-! Grid___init__ -/
def N_Grid___init__ : List Str := ["self", "limits", "item"]
def P_Grid___init__ : List Str := ["self", "limits"]
def T0_Grid___init__ : FE := (notF (callF false F_is_limit [] (consA (varF 2) nilA)))
def E1_Grid___init__ : FE := (varF 2)
def S_Grid___init__ : FS := (seqS (ifS (orF (notF (callBF (isEX nC subB ownB exB) (consA (varF 1) (consA (litF (.ty "list")) nilA)))) (op2F (gtX) (callBF lenX (consA (varF 1) nilA)) (litF (.int 3)))) (raiseS 2 (varF 1)) skipS) (seqS (ifS (op2F (eqX true) (lcF false [2] (nameG 2) (iterF (varF 1)) T0_Grid___init__ E1_Grid___init__) (lstF false nilA)) (raiseS 2 (varF 1)) skipS) (seqS (ifS (op2F (gtX) (callF false F_class_count [] (consA (varF 1) nilA)) (litF (.int 600))) (raiseS 5 (callF false F_class_count [] (consA (varF 1) nilA))) skipS) (setFldS ownB "_limits" (varF 0) (callBF tupleX (consA (varF 1) nilA))))))
def F_Grid___init__ : Fn := bodyF 1 S_Grid___init__
theorem sc_Grid___init__ : FnScope N_Grid___init__ P_Grid___init__ (defScope (mth 22 0)) := ⟨rfl, rfl, rfl, by decide +kernel, rfl, by decide +kernel, by decide +kernel⟩
theorem b_Grid___init__ (B : Tb P K mg ct) (hD_is_limit : Def (tx K ct) P w K mg base 3 "is_limit" ["value"] [] F_is_limit) (hD_class_count : Def (tx K ct) P w K mg base 1 "class_count" ["limits"] [] F_class_count) (q : Qx) (W : WX) (hr : RoomG 3 q.A) (tk : Takes (mkX P w K mg base N_Grid___init__ (defScope (mth 22 0)) q) W) (hp : PassesOwn (model P w) q.A (enX (defScope (mth 22 0)) q) q.xe) :
    PFSs (tx K ct) (mkX P w K mg base N_Grid___init__ (defScope (mth 22 0)) q) W (defBody (mth 22 0)) S_Grid___init__ :=
  have C : Cn (tx K ct) (mkX P w K mg base N_Grid___init__ (defScope (mth 22 0)) q) W 3 := ⟨rfl, hr, tk, rfl, sc_Grid___init__.nd⟩
  (pfs_cons (pfs_if (pft_w (pfw_or (pft_not (pft_of C.hK (pf_callB (b_isi C) (isEX_ok B.txo B.tex) B.g_isinstance bt_isinstance (pfa_cons (pf_var 1) (pfa_cons (pf_ty B.g_list bt_list) pfa_nil))))) (pfw_or1 (pft_cmp op_gt int2B_ok int2_bl (pf_callB (b_len C) len_ok B.g_len bt_len (pfa_cons (pf_var 1) pfa_nil)) (pf_gint B.c_MOST_UNKNOWNS.choose_spec) (nomark _))))) (pfs_one (pfs_raise (c := 2) C.calm B.e_InvalidList.choose_spec rfl C.hr C.tk B.m_InvalidList B.g_super (pf_var 1))) pfs_nil) (pfs_cons (pfs_if (pft_cmp (o_ne C) ne_ok eqX_bl (pf_lc (own := [("item", 2)]) false C.calm C.nd (pfi_seq C.hK (pf_var 1)) (blkOk_by (by first | decide +kernel | rfl)) (fun _ _ _ _ _ => (pfg_name (i := 2) (Cn.blk C _ _ _ _ _).nd)) (fun _ _ _ _ _ => (pts_1 (pft_not (pft_of (Cn.blk C _ _ _ _ _).hK (pf_callD false hD_is_limit (Cn.blk C _ _ _ _ _) (pfa_cons (pf_var 2) pfa_nil) (len_cons len_nil)))))) (fun _ _ _ _ _ => (pf_var 2))) (pf_lst false pfa_nil) (nomark _)) (pfs_one (pfs_raise (c := 2) C.calm B.e_InvalidList.choose_spec rfl C.hr C.tk B.m_InvalidList B.g_super (pf_var 1))) pfs_nil) (pfs_cons (pfs_if (pft_cmp op_gt int2B_ok int2_bl (pf_callD false hD_class_count C (pfa_cons (pf_var 1) pfa_nil) (len_cons len_nil)) (pf_gint B.c_MOST_CLASSES.choose_spec) (nomark _)) (pfs_one (pfs_raise (c := 5) C.calm B.e_TooMany.choose_spec rfl C.hr C.tk B.m_TooMany B.g_super (pf_callD false hD_class_count C (pfa_cons (pf_var 1) pfa_nil) (len_cons len_nil)))) pfs_nil) (pfs_one (pfs_setFld B.tcl B.n__limits C.hK (pf_callTy (b_tuple C) tuple_ok B.g_tuple bt_tuple (pfa_cons (pf_var 1) pfa_nil)) (pf_var 0))))))
/-! Grid_many -/
def N_Grid_many : List Str := ["self"]
def P_Grid_many : List Str := ["self"]
def S_Grid_many : FS := (retS (callBF lenX (consA (fldF ownB "_limits" (varF 0)) nilA)))
def F_Grid_many : Fn := bodyF 0 S_Grid_many
theorem sc_Grid_many : FnScope N_Grid_many P_Grid_many (defScope (mth 22 1)) := ⟨rfl, rfl, rfl, by decide +kernel, rfl, by decide +kernel, by decide +kernel⟩
theorem b_Grid_many (B : Tb P K mg ct) (q : Qx) (W : WX) (hr : RoomG 0 q.A) (tk : Takes (mkX P w K mg base N_Grid_many (defScope (mth 22 1)) q) W) (hp : PassesOwn (model P w) q.A (enX (defScope (mth 22 1)) q) q.xe) :
    PFSs (tx K ct) (mkX P w K mg base N_Grid_many (defScope (mth 22 1)) q) W (defBody (mth 22 1)) S_Grid_many :=
  have C : Cn (tx K ct) (mkX P w K mg base N_Grid_many (defScope (mth 22 1)) q) W 0 := ⟨rfl, hr, tk, rfl, sc_Grid_many.nd⟩
  (pfs_one (pfs_ret (pf_callB (b_len C) len_ok B.g_len bt_len (pfa_cons (pf_fld B.tcl B.n__limits C.hK (pf_var 0)) pfa_nil))))
/-! Grid_limits -/
def N_Grid_limits : List Str := ["self"]
def P_Grid_limits : List Str := ["self"]
def S_Grid_limits : FS := (retS (callBF (listX false) (consA (fldF ownB "_limits" (varF 0)) nilA)))
def F_Grid_limits : Fn := bodyF 0 S_Grid_limits
theorem sc_Grid_limits : FnScope N_Grid_limits P_Grid_limits (defScope (mth 22 2)) := ⟨rfl, rfl, rfl, by decide +kernel, rfl, by decide +kernel, by decide +kernel⟩
theorem b_Grid_limits (B : Tb P K mg ct) (q : Qx) (W : WX) (hr : RoomG 0 q.A) (tk : Takes (mkX P w K mg base N_Grid_limits (defScope (mth 22 2)) q) W) (hp : PassesOwn (model P w) q.A (enX (defScope (mth 22 2)) q) q.xe) :
    PFSs (tx K ct) (mkX P w K mg base N_Grid_limits (defScope (mth 22 2)) q) W (defBody (mth 22 2)) S_Grid_limits :=
  have C : Cn (tx K ct) (mkX P w K mg base N_Grid_limits (defScope (mth 22 2)) q) W 0 := ⟨rfl, hr, tk, rfl, sc_Grid_limits.nd⟩
  (pfs_one (pfs_ret (pf_callTy (b_list C) (list_ok (m := false)) B.g_list bt_list (pfa_cons (pf_fld B.tcl B.n__limits C.hK (pf_var 0)) pfa_nil))))
/-! Grid___eq__ -/
def N_Grid___eq__ : List Str := ["self", "other"]
def P_Grid___eq__ : List Str := ["self", "other"]
def S_Grid___eq__ : FS := (seqS (ifS (notF (callBF (isEX nC subB ownB exB) (consA (varF 1) (consA (litF (.cls 6)) nilA)))) (retS (litF (.bl false))) skipS) (retS (op2F (eqX false) (fldF ownB "_limits" (varF 0)) (fldF ownB "_limits" (varF 1)))))
def F_Grid___eq__ : Fn := bodyF 0 S_Grid___eq__
theorem sc_Grid___eq__ : FnScope N_Grid___eq__ P_Grid___eq__ (defScope (mth 22 3)) := ⟨rfl, rfl, rfl, by decide +kernel, rfl, by decide +kernel, by decide +kernel⟩
theorem b_Grid___eq__ (B : Tb P K mg ct) (q : Qx) (W : WX) (hr : RoomG 0 q.A) (tk : Takes (mkX P w K mg base N_Grid___eq__ (defScope (mth 22 3)) q) W) (hp : PassesOwn (model P w) q.A (enX (defScope (mth 22 3)) q) q.xe) :
    PFSs (tx K ct) (mkX P w K mg base N_Grid___eq__ (defScope (mth 22 3)) q) W (defBody (mth 22 3)) S_Grid___eq__ :=
  have C : Cn (tx K ct) (mkX P w K mg base N_Grid___eq__ (defScope (mth 22 3)) q) W 0 := ⟨rfl, hr, tk, rfl, sc_Grid___eq__.nd⟩
  (pfs_cons (pfs_if (pft_not (pft_of C.hK (pf_callB (b_isi C) (isEX_ok B.txo B.tex) B.g_isinstance bt_isinstance (pfa_cons (pf_var 1) (pfa_cons (pf_gcls 6 B.m_Grid) pfa_nil))))) (pfs_one (pfs_ret pf_bl)) pfs_nil) (pfs_one (pfs_ret (pf_cmp (o_eq C) eq_ok (pf_fld B.tcl B.n__limits C.hK (pf_var 0)) (pf_fld B.tcl B.n__limits C.hK (pf_var 1)) (nomark _)))))
/-! check_grid -/
def N_check_grid : List Str := ["grid"]
def P_check_grid : List Str := ["grid"]
def S_check_grid : FS := (ifS (notF (callBF (isEX nC subB ownB exB) (consA (varF 0) (consA (litF (.cls 6)) nilA)))) (raiseS 3 (varF 0)) skipS)
def F_check_grid : Fn := bodyF 0 S_check_grid
theorem sc_check_grid : FnScope N_check_grid P_check_grid (defScope (top 23)) := ⟨rfl, rfl, rfl, by decide +kernel, rfl, by decide +kernel, by decide +kernel⟩
theorem b_check_grid (B : Tb P K mg ct) (q : Qx) (W : WX) (hr : RoomG 0 q.A) (tk : Takes (mkX P w K mg base N_check_grid (defScope (top 23)) q) W) (hp : PassesOwn (model P w) q.A (enX (defScope (top 23)) q) q.xe) :
    PFSs (tx K ct) (mkX P w K mg base N_check_grid (defScope (top 23)) q) W (defBody (top 23)) S_check_grid :=
  have C : Cn (tx K ct) (mkX P w K mg base N_check_grid (defScope (top 23)) q) W 0 := ⟨rfl, hr, tk, rfl, sc_check_grid.nd⟩
  (pfs_one (pfs_if (pft_not (pft_of C.hK (pf_callB (b_isi C) (isEX_ok B.txo B.tex) B.g_isinstance bt_isinstance (pfa_cons (pf_var 0) (pfa_cons (pf_gcls 6 B.m_Grid) pfa_nil))))) (pfs_one (pfs_raise (c := 3) C.calm B.e_InvalidGrid.choose_spec rfl C.hr C.tk B.m_InvalidGrid B.g_super (pf_var 0))) pfs_nil))
/-! check_two_grids -/
def N_check_two_grids : List Str := ["one", "other"]
def P_check_two_grids : List Str := ["one", "other"]
def S_check_two_grids : FS := (seqS (exprS (callF false F_check_grid [] (consA (varF 0) nilA))) (seqS (exprS (callF false F_check_grid [] (consA (varF 1) nilA))) (ifS (op2F (eqX true) (methF false 6 "many" F_Grid_many [] (varF 0) nilA) (methF false 6 "many" F_Grid_many [] (varF 1) nilA)) (raiseS 4 (varF 1)) skipS)))
def F_check_two_grids : Fn := bodyF 0 S_check_two_grids
theorem sc_check_two_grids : FnScope N_check_two_grids P_check_two_grids (defScope (top 24)) := ⟨rfl, rfl, rfl, by decide +kernel, rfl, by decide +kernel, by decide +kernel⟩
theorem b_check_two_grids (B : Tb P K mg ct) (hD_check_grid : Def (tx K ct) P w K mg base 1 "check_grid" ["grid"] [] F_check_grid) (hO_Grid_many : DefO (tx K ct) P w K mg base 1 6 "many" ["self"] [] F_Grid_many) (q : Qx) (W : WX) (hr : RoomG 1 q.A) (tk : Takes (mkX P w K mg base N_check_two_grids (defScope (top 24)) q) W) (hp : PassesOwn (model P w) q.A (enX (defScope (top 24)) q) q.xe) :
    PFSs (tx K ct) (mkX P w K mg base N_check_two_grids (defScope (top 24)) q) W (defBody (top 24)) S_check_two_grids :=
  have C : Cn (tx K ct) (mkX P w K mg base N_check_two_grids (defScope (top 24)) q) W 1 := ⟨rfl, hr, tk, rfl, sc_check_two_grids.nd⟩
  (pfs_cons (pfs_expr (pf_callD false hD_check_grid C (pfa_cons (pf_var 0) pfa_nil) (len_cons len_nil))) (pfs_cons (pfs_expr (pf_callD false hD_check_grid C (pfa_cons (pf_var 1) pfa_nil) (len_cons len_nil))) (pfs_one (pfs_if (pft_cmp (o_ne C) ne_ok eqX_bl (pf_meth0 false hO_Grid_many C (pf_var 0)) (pf_meth0 false hO_Grid_many C (pf_var 1)) (nomark _)) (pfs_one (pfs_raise (c := 4) C.calm B.e_Unlike.choose_spec rfl C.hr C.tk B.m_Unlike B.g_super (pf_var 1))) pfs_nil))))
/-! class_of -/
def N_class_of : List Str := ["grid", "point"]
def P_class_of : List Str := ["grid", "point"]
def S_class_of : FS := (seqS (exprS (callF false F_check_grid [] (consA (varF 0) nilA))) (seqS (exprS (callF false F_check_point [] (consA (methF false 6 "many" F_Grid_many [] (varF 0) nilA) (consA (varF 1) nilA)))) (retS (callF false F_reduced [] (consA (methF false 6 "limits" F_Grid_limits [] (varF 0) nilA) (consA (varF 1) nilA))))))
def F_class_of : Fn := bodyF 0 S_class_of
theorem sc_class_of : FnScope N_class_of P_class_of (defScope (top 25)) := ⟨rfl, rfl, rfl, by decide +kernel, rfl, by decide +kernel, by decide +kernel⟩
theorem b_class_of (B : Tb P K mg ct) (hD_check_grid : Def (tx K ct) P w K mg base 1 "check_grid" ["grid"] [] F_check_grid) (hD_check_point : Def (tx K ct) P w K mg base 5 "check_point" ["many", "point"] [] F_check_point) (hO_Grid_many : DefO (tx K ct) P w K mg base 1 6 "many" ["self"] [] F_Grid_many) (hD_reduced : Def (tx K ct) P w K mg base 2 "reduced" ["limits", "point"] [] F_reduced) (hO_Grid_limits : DefO (tx K ct) P w K mg base 1 6 "limits" ["self"] [] F_Grid_limits) (q : Qx) (W : WX) (hr : RoomG 5 q.A) (tk : Takes (mkX P w K mg base N_class_of (defScope (top 25)) q) W) (hp : PassesOwn (model P w) q.A (enX (defScope (top 25)) q) q.xe) :
    PFSs (tx K ct) (mkX P w K mg base N_class_of (defScope (top 25)) q) W (defBody (top 25)) S_class_of :=
  have C : Cn (tx K ct) (mkX P w K mg base N_class_of (defScope (top 25)) q) W 5 := ⟨rfl, hr, tk, rfl, sc_class_of.nd⟩
  (pfs_cons (pfs_expr (pf_callD false hD_check_grid C (pfa_cons (pf_var 0) pfa_nil) (len_cons len_nil))) (pfs_cons (pfs_expr (pf_callD false hD_check_point C (pfa_cons (pf_meth0 false hO_Grid_many C (pf_var 0)) (pfa_cons (pf_var 1) pfa_nil)) (len_cons (len_cons len_nil)))) (pfs_one (pfs_ret (pf_callD false hD_reduced C (pfa_cons (pf_meth0 false hO_Grid_limits C (pf_var 0)) (pfa_cons (pf_var 1) pfa_nil)) (len_cons (len_cons len_nil)))))))
/-! limits_refine -/
def N_limits_refine : List Str := ["one", "other", "low", "high"]
def P_limits_refine : List Str := ["one", "other"]
def B0_limits_refine : FS := (ifS (orF (op2F (ltX) (op2F ixX (varF 2) (litF (.int 0))) (op2F ixX (varF 3) (litF (.int 0)))) (op2F (eqX true) (op2F modX (op2F ixX (varF 2) (litF (.int 1))) (op2F ixX (varF 3) (litF (.int 1)))) (litF (.int 0)))) (retS (litF (.bl false))) skipS)
def S_limits_refine : FS := (seqS (forS (tupG 2 (consG (nameG 2) (consG (nameG 3) nilG))) (zipSF (consA (varF 0) (consA (varF 1) nilA))) B0_limits_refine) (retS (litF (.bl true))))
def F_limits_refine : Fn := bodyF 2 S_limits_refine
theorem sc_limits_refine : FnScope N_limits_refine P_limits_refine (defScope (top 26)) := ⟨rfl, rfl, rfl, by decide +kernel, rfl, by decide +kernel, by decide +kernel⟩
theorem b_limits_refine (B : Tb P K mg ct) (q : Qx) (W : WX) (hr : RoomG 0 q.A) (tk : Takes (mkX P w K mg base N_limits_refine (defScope (top 26)) q) W) (hp : PassesOwn (model P w) q.A (enX (defScope (top 26)) q) q.xe) :
    PFSs (tx K ct) (mkX P w K mg base N_limits_refine (defScope (top 26)) q) W (defBody (top 26)) S_limits_refine :=
  have C : Cn (tx K ct) (mkX P w K mg base N_limits_refine (defScope (top 26)) q) W 0 := ⟨rfl, hr, tk, rfl, sc_limits_refine.nd⟩
  (pfs_cons (pfs_for hp C.calm (pfi_zipS C.hK B.g_zip (pfa_cons (pf_var 0) (pfa_cons (pf_var 1) pfa_nil))) (pfg_tup C.hK C.calm (pfgs_cons (pfg_name (i := 2) C.nd) (pfgs_cons (pfg_name (i := 3) C.nd) pfgs_nil))) (pfs_one (pfs_if (pft_w (pfw_or (pft_cmp op_lt int2B_ok int2_bl (pf_ix C.hK (pf_var 2) pf_int) (pf_ix C.hK (pf_var 3) pf_int) (nomark _)) (pfw_or1 (pft_cmp (o_ne C) ne_ok eqX_bl (pf_mod (pf_ix C.hK (pf_var 2) pf_int) (pf_ix C.hK (pf_var 3) pf_int)) pf_int (nomark _))))) (pfs_one (pfs_ret pf_bl)) pfs_nil))) (pfs_one (pfs_ret pf_bl)))
/-! refines -/
def N_refines : List Str := ["one", "other"]
def P_refines : List Str := ["one", "other"]
def S_refines : FS := (seqS (exprS (callF false F_check_two_grids [] (consA (varF 0) (consA (varF 1) nilA)))) (retS (callF false F_limits_refine [] (consA (methF false 6 "limits" F_Grid_limits [] (varF 0) nilA) (consA (methF false 6 "limits" F_Grid_limits [] (varF 1) nilA) nilA)))))
def F_refines : Fn := bodyF 0 S_refines
theorem sc_refines : FnScope N_refines P_refines (defScope (top 27)) := ⟨rfl, rfl, rfl, by decide +kernel, rfl, by decide +kernel, by decide +kernel⟩
theorem b_refines (B : Tb P K mg ct) (hD_check_two_grids : Def (tx K ct) P w K mg base 2 "check_two_grids" ["one", "other"] [] F_check_two_grids) (hD_limits_refine : Def (tx K ct) P w K mg base 1 "limits_refine" ["one", "other"] [] F_limits_refine) (hO_Grid_limits : DefO (tx K ct) P w K mg base 1 6 "limits" ["self"] [] F_Grid_limits) (q : Qx) (W : WX) (hr : RoomG 2 q.A) (tk : Takes (mkX P w K mg base N_refines (defScope (top 27)) q) W) (hp : PassesOwn (model P w) q.A (enX (defScope (top 27)) q) q.xe) :
    PFSs (tx K ct) (mkX P w K mg base N_refines (defScope (top 27)) q) W (defBody (top 27)) S_refines :=
  have C : Cn (tx K ct) (mkX P w K mg base N_refines (defScope (top 27)) q) W 2 := ⟨rfl, hr, tk, rfl, sc_refines.nd⟩
  (pfs_cons (pfs_expr (pf_callD false hD_check_two_grids C (pfa_cons (pf_var 0) (pfa_cons (pf_var 1) pfa_nil)) (len_cons (len_cons len_nil)))) (pfs_one (pfs_ret (pf_callD false hD_limits_refine C (pfa_cons (pf_meth0 false hO_Grid_limits C (pf_var 0)) (pfa_cons (pf_meth0 false hO_Grid_limits C (pf_var 1)) pfa_nil)) (len_cons (len_cons len_nil))))))
/-! meeting -/
def N_meeting : List Str := ["one", "other"]
def P_meeting : List Str := ["one", "other"]
def S_meeting : FS := (seqS (exprS (callF false F_check_two_grids [] (consA (varF 0) (consA (varF 1) nilA)))) (retS (makeF false 6 F_Grid___init__ [] (consA (callF false F_meeting_limits [] (consA (methF false 6 "limits" F_Grid_limits [] (varF 0) nilA) (consA (methF false 6 "limits" F_Grid_limits [] (varF 1) nilA) nilA))) nilA))))
def F_meeting : Fn := bodyF 0 S_meeting
theorem sc_meeting : FnScope N_meeting P_meeting (defScope (top 28)) := ⟨rfl, rfl, rfl, by decide +kernel, rfl, by decide +kernel, by decide +kernel⟩
theorem b_meeting (B : Tb P K mg ct) (hD_check_two_grids : Def (tx K ct) P w K mg base 2 "check_two_grids" ["one", "other"] [] F_check_two_grids) (hM_Grid___init__ : DefM (tx K ct) P w K mg base 4 "Grid" 6 ["self", "limits"] [] F_Grid___init__) (hD_meeting_limits : Def (tx K ct) P w K mg base 1 "meeting_limits" ["one", "other"] [] F_meeting_limits) (hO_Grid_limits : DefO (tx K ct) P w K mg base 1 6 "limits" ["self"] [] F_Grid_limits) (q : Qx) (W : WX) (hr : RoomG 5 q.A) (tk : Takes (mkX P w K mg base N_meeting (defScope (top 28)) q) W) (hp : PassesOwn (model P w) q.A (enX (defScope (top 28)) q) q.xe) :
    PFSs (tx K ct) (mkX P w K mg base N_meeting (defScope (top 28)) q) W (defBody (top 28)) S_meeting :=
  have C : Cn (tx K ct) (mkX P w K mg base N_meeting (defScope (top 28)) q) W 5 := ⟨rfl, hr, tk, rfl, sc_meeting.nd⟩
  (pfs_cons (pfs_expr (pf_callD false hD_check_two_grids C (pfa_cons (pf_var 0) (pfa_cons (pf_var 1) pfa_nil)) (len_cons (len_cons len_nil)))) (pfs_one (pfs_ret (pf_make false hM_Grid___init__ C (pfa_cons (pf_callD false hD_meeting_limits C (pfa_cons (pf_meth0 false hO_Grid_limits C (pf_var 0)) (pfa_cons (pf_meth0 false hO_Grid_limits C (pf_var 1)) pfa_nil)) (len_cons (len_cons len_nil))) pfa_nil) (len_cons len_nil)))))
/-! _law_hash -/
def N__law_hash : List Str := ["_law_seed", "_law_index", "_law_mixed"]
def P__law_hash : List Str := ["_law_seed", "_law_index"]
def S__law_hash : FS := (seqS (setS 2 (op2F modX (callBF intX (consA (op2F (addX false) (op2F (addX false) (op2F (addX false) (op2F (mulX false) (varF 0) (litF (.int 1597334))) (op2F (mulX false) (op2F (mulX false) (litF (.int 22695477)) (varF 1)) (varF 1))) (op2F (mulX false) (litF (.int 977)) (varF 1))) (litF (.int 41))) nilA)) (litF (.int 2147483629)))) (seqS (setS 2 (op2F modX (callBF intX (consA (op2F (addX false) (op2F (addX false) (op2F (mulX false) (varF 2) (varF 2)) (op2F (mulX false) (litF (.int 40503)) (varF 1))) (litF (.int 9973))) nilA)) (litF (.int 2147483587)))) (retS (op2F modX (callBF intX (consA (op2F (mulX false) (varF 2) (litF (.int 69621))) nilA)) (litF (.int 2147483647))))))
def F__law_hash : Fn := bodyF 1 S__law_hash
theorem sc__law_hash : FnScope N__law_hash P__law_hash (defScope (top 30)) := ⟨rfl, rfl, rfl, by decide +kernel, rfl, by decide +kernel, by decide +kernel⟩
theorem b__law_hash (B : Tb P K mg ct) (q : Qx) (W : WX) (hr : RoomG 0 q.A) (tk : Takes (mkX P w K mg base N__law_hash (defScope (top 30)) q) W) (hp : PassesOwn (model P w) q.A (enX (defScope (top 30)) q) q.xe) :
    PFSs (tx K ct) (mkX P w K mg base N__law_hash (defScope (top 30)) q) W (defBody (top 30)) S__law_hash :=
  have C : Cn (tx K ct) (mkX P w K mg base N__law_hash (defScope (top 30)) q) W 0 := ⟨rfl, hr, tk, rfl, sc__law_hash.nd⟩
  (pfs_cons (pfs_set (i := 2) C.nd (pf_mod (pf_callTy (b_int C) int_ok B.g_int bt_int (pfa_cons (pf_add false C.hK (pf_add false C.hK (pf_add false C.hK (pf_mul false C.hK (pf_var 0) pf_int) (pf_mul false C.hK (pf_mul false C.hK pf_int (pf_var 1)) (pf_var 1))) (pf_mul false C.hK pf_int (pf_var 1))) pf_int) pfa_nil)) pf_int)) (pfs_cons (pfs_set (i := 2) C.nd (pf_mod (pf_callTy (b_int C) int_ok B.g_int bt_int (pfa_cons (pf_add false C.hK (pf_add false C.hK (pf_mul false C.hK (pf_var 2) (pf_var 2)) (pf_mul false C.hK pf_int (pf_var 1))) pf_int) pfa_nil)) pf_int)) (pfs_one (pfs_ret (pf_mod (pf_callTy (b_int C) int_ok B.g_int bt_int (pfa_cons (pf_mul false C.hK (pf_var 2) pf_int) pfa_nil)) pf_int)))))
/-! _law_random -/
def N__law_random : List Str := ["_law_generator_here", "_law_bound", "_law_drawn", "_law_turn"]
def P__law_random : List Str := ["_law_generator_here", "_law_bound"]
def B0__law_random : FS := (seqS (setIxS (op2F (addX false) (op2F ixX (varF 0) (litF (.int 2))) (litF (.int 1))) (varF 0) (litF (.int 2))) (setS 2 (op2F (addX false) (op2F (mulX false) (varF 2) (litF (.int 2147483587))) (callF false F__law_hash [] (consA (op2F ixX (varF 0) (litF (.int 1))) (consA (op2F ixX (varF 0) (litF (.int 2))) nilA))))))
def S__law_random : FS := (seqS (ifS (op2F (gtX) (op2F ixX (varF 0) (litF (.int 0))) (litF (.int 0))) (seqS (setS 2 (op2F modX (callBF intX (consA (op2F ixX (varF 0) (litF (.int 0))) nilA)) (varF 1))) (seqS (setIxS (op2F fdivX (op2F ixX (varF 0) (litF (.int 0))) (varF 1)) (varF 0) (litF (.int 0))) (retS (varF 2)))) skipS) (seqS (setS 2 (litF (.int 0))) (seqS (forS (nameG 3) (rng1F (consA (op2F (addX false) (litF (.int 1)) (op2F fdivX (bitsF (varF 1)) (litF (.int 30)))) nilA)) B0__law_random) (retS (op2F modX (callBF intX (consA (varF 2) nilA)) (varF 1))))))
def F__law_random : Fn := bodyF 2 S__law_random
theorem sc__law_random : FnScope N__law_random P__law_random (defScope (top 31)) := ⟨rfl, rfl, rfl, by decide +kernel, rfl, by decide +kernel, by decide +kernel⟩
theorem b__law_random (B : Tb P K mg ct) (hD__law_hash : Def (tx K ct) P w K mg base 1 "_law_hash" ["_law_seed", "_law_index"] [] F__law_hash) (q : Qx) (W : WX) (hr : RoomG 1 q.A) (tk : Takes (mkX P w K mg base N__law_random (defScope (top 31)) q) W) (hp : PassesOwn (model P w) q.A (enX (defScope (top 31)) q) q.xe) :
    PFSs (tx K ct) (mkX P w K mg base N__law_random (defScope (top 31)) q) W (defBody (top 31)) S__law_random :=
  have C : Cn (tx K ct) (mkX P w K mg base N__law_random (defScope (top 31)) q) W 1 := ⟨rfl, hr, tk, rfl, sc__law_random.nd⟩
  (pfs_cons (pfs_if (pft_cmp op_gt int2B_ok int2_bl (pf_ix C.hK (pf_var 0) pf_int) pf_int (nomark _)) (pfs_cons (pfs_set (i := 2) C.nd (pf_mod (pf_callTy (b_int C) int_ok B.g_int bt_int (pfa_cons (pf_ix C.hK (pf_var 0) pf_int) pfa_nil)) (pf_var 1))) (pfs_cons (pfs_setIx (pf_fdiv (pf_ix C.hK (pf_var 0) pf_int) (pf_var 1)) (pf_var 0) pf_int) (pfs_one (pfs_ret (pf_var 2))))) pfs_nil) (pfs_cons (pfs_set (i := 2) C.nd pf_int) (pfs_cons (pfs_for hp C.calm (pfi_range1 B.g_range (pfa_cons (pf_add false C.hK pf_int (pf_fdiv (pf_bits (pf_var 1)) pf_int)) pfa_nil)) (pfg_name (i := 3) C.nd) (pfs_cons (pfs_setIx (pf_add false C.hK (pf_ix C.hK (pf_var 0) pf_int) pf_int) (pf_var 0) pf_int) (pfs_one (pfs_set (i := 2) C.nd (pf_add false C.hK (pf_mul false C.hK (pf_var 2) pf_int) (pf_callD false hD__law_hash C (pfa_cons (pf_ix C.hK (pf_var 0) pf_int) (pfa_cons (pf_ix C.hK (pf_var 0) pf_int) pfa_nil)) (len_cons (len_cons len_nil)))))))) (pfs_one (pfs_ret (pf_mod (pf_callTy (b_int C) int_ok B.g_int bt_int (pfa_cons (pf_var 2) pfa_nil)) (pf_var 1)))))))
/-! _law_generator -/
def N__law_generator : List Str := ["_law_script", "_law_index", "_law_seed"]
def P__law_generator : List Str := ["_law_script", "_law_index"]
def S__law_generator : FS := (seqS (setS 2 (ifF (op2F (ltX) (varF 1) (callBF lenX (consA (varF 0) nilA))) (op2F ixX (varF 0) (varF 1)) (op2F modX (callBF sumX (consA (slF false (varF 0) (litF .non) (intF (litF (.int 1)))) nilA)) (litF (.int 1000003))))) (retS (lstF true (consA (op2F modX (callBF intX (consA (callBF maxX (consA (op2F subX (varF 2) (op2F powX (litF (.int 10)) (litF (.int 18)))) (consA (litF (.int 0)) nilA))) nilA)) (op2F powX (op2F powX (litF (.int 10)) (litF (.int 60))) (litF (.int 10)))) (consA (op2F modX (callBF intX (consA (varF 2) nilA)) (litF (.int 2147483647))) (consA (op2F (mulX false) (litF (.int 1000)) (varF 1)) nilA))))))
def F__law_generator : Fn := bodyF 1 S__law_generator
theorem sc__law_generator : FnScope N__law_generator P__law_generator (defScope (top 32)) := ⟨rfl, rfl, rfl, by decide +kernel, rfl, by decide +kernel, by decide +kernel⟩
theorem b__law_generator (B : Tb P K mg ct) (q : Qx) (W : WX) (hr : RoomG 0 q.A) (tk : Takes (mkX P w K mg base N__law_generator (defScope (top 32)) q) W) (hp : PassesOwn (model P w) q.A (enX (defScope (top 32)) q) q.xe) :
    PFSs (tx K ct) (mkX P w K mg base N__law_generator (defScope (top 32)) q) W (defBody (top 32)) S__law_generator :=
  have C : Cn (tx K ct) (mkX P w K mg base N__law_generator (defScope (top 32)) q) W 0 := ⟨rfl, hr, tk, rfl, sc__law_generator.nd⟩
  (pfs_cons (pfs_set (i := 2) C.nd (pf_if (pft_cmp op_lt int2B_ok int2_bl (pf_var 1) (pf_callB (b_len C) len_ok B.g_len bt_len (pfa_cons (pf_var 0) pfa_nil)) (nomark _)) (pf_ix C.hK (pf_var 0) (pf_var 1)) (pf_mod (pf_callB (b_sum C) sum_ok B.g_sum bt_sum (pfa_cons (pf_slice false C.hK (pf_var 0) pfo_none (pfo_some pf_int)) pfa_nil)) pf_int))) (pfs_one (pfs_ret (pf_lst true (pfa_cons (pf_mod (pf_callTy (b_int C) int_ok B.g_int bt_int (pfa_cons (pf_callB (b_max C) max_ok B.g_max bt_max (pfa_cons (pf_sub (pf_var 2) (pf_pow pf_int pf_int)) (pfa_cons pf_int pfa_nil))) pfa_nil)) (pf_pow (pf_pow pf_int pf_int) pf_int)) (pfa_cons (pf_mod (pf_callTy (b_int C) int_ok B.g_int bt_int (pfa_cons (pf_var 2) pfa_nil)) pf_int) (pfa_cons (pf_mul false C.hK pf_int (pf_var 1)) pfa_nil)))))))
/-! _law_limits -/
def N__law_limits : List Str := ["_law_generator_here", "_law_many_here", "_law_least_here", "_law_most", "_law_at"]
def P__law_limits : List Str := ["_law_generator_here", "_law_many_here", "_law_least_here", "_law_most"]
def E0__law_limits : FE := (tupF (consA (callF false F__law_random [] (consA (varF 0) (consA (op2F (addX false) (varF 2) (litF (.int 1))) nilA))) (consA (op2F (addX false) (litF (.int 1)) (callF false F__law_random [] (consA (varF 0) (consA (varF 3) nilA)))) nilA)))
def S__law_limits : FS := (retS (lcF false [4] (nameG 4) (rng1F (consA (varF 1) nilA)) yesF E0__law_limits))
def F__law_limits : Fn := bodyF 1 S__law_limits
theorem sc__law_limits : FnScope N__law_limits P__law_limits (defScope (top 33)) := ⟨rfl, rfl, rfl, by decide +kernel, rfl, by decide +kernel, by decide +kernel⟩
theorem b__law_limits (B : Tb P K mg ct) (hD__law_random : Def (tx K ct) P w K mg base 2 "_law_random" ["_law_generator_here", "_law_bound"] [] F__law_random) (q : Qx) (W : WX) (hr : RoomG 2 q.A) (tk : Takes (mkX P w K mg base N__law_limits (defScope (top 33)) q) W) (hp : PassesOwn (model P w) q.A (enX (defScope (top 33)) q) q.xe) :
    PFSs (tx K ct) (mkX P w K mg base N__law_limits (defScope (top 33)) q) W (defBody (top 33)) S__law_limits :=
  have C : Cn (tx K ct) (mkX P w K mg base N__law_limits (defScope (top 33)) q) W 2 := ⟨rfl, hr, tk, rfl, sc__law_limits.nd⟩
  (pfs_one (pfs_ret (pf_lc (own := [("_law_at", 4)]) false C.calm C.nd (pfi_range1 B.g_range (pfa_cons (pf_var 1) pfa_nil)) (blkOk_by (by first | decide +kernel | rfl)) (fun _ _ _ _ _ => (pfg_name (i := 4) (Cn.blk C _ _ _ _ _).nd)) (fun _ _ _ _ _ => pts_yes) (fun _ _ _ _ _ => (pf_tup (pfa_cons (pf_callD false hD__law_random (Cn.blk C _ _ _ _ _) (pfa_cons (pf_var 0) (pfa_cons (pf_add false (Cn.blk C _ _ _ _ _).hK (pf_var 2) pf_int) pfa_nil)) (len_cons (len_cons len_nil))) (pfa_cons (pf_add false (Cn.blk C _ _ _ _ _).hK pf_int (pf_callD false hD__law_random (Cn.blk C _ _ _ _ _) (pfa_cons (pf_var 0) (pfa_cons (pf_var 3) pfa_nil)) (len_cons (len_cons len_nil)))) pfa_nil)))))))
/-! _law_box -/
def N__law_box : List Str := ["_law_sizes", "_law_found", "_law_size", "_law_more", "_law_point", "_law_count"]
def P__law_box : List Str := ["_law_sizes"]
def B0__law_box : FS := (exprS (appF (varF 3) (consA (op2F (addX false) (varF 4) (lstF false (consA (varF 5) nilA))) nilA)))
def B1__law_box : FS := (forS (nameG 5) (rng1F (consA (varF 2) nilA)) B0__law_box)
def B2__law_box : FS := (seqS (setS 3 (lstF true nilA)) (seqS (forS (nameG 4) (iterF (varF 1)) B1__law_box) (frzS 3 (setS 1 (varF 3)))))
def S__law_box : FS := (seqS (setS 1 (lstF false (consA (lstF false nilA) nilA))) (seqS (forS (nameG 2) (iterF (varF 0)) B2__law_box) (retS (varF 1))))
def F__law_box : Fn := bodyF 5 S__law_box
theorem sc__law_box : FnScope N__law_box P__law_box (defScope (top 34)) := ⟨rfl, rfl, rfl, by decide +kernel, rfl, by decide +kernel, by decide +kernel⟩
theorem b__law_box (B : Tb P K mg ct) (q : Qx) (W : WX) (hr : RoomG 0 q.A) (tk : Takes (mkX P w K mg base N__law_box (defScope (top 34)) q) W) (hp : PassesOwn (model P w) q.A (enX (defScope (top 34)) q) q.xe) :
    PFSs (tx K ct) (mkX P w K mg base N__law_box (defScope (top 34)) q) W (defBody (top 34)) S__law_box :=
  have C : Cn (tx K ct) (mkX P w K mg base N__law_box (defScope (top 34)) q) W 0 := ⟨rfl, hr, tk, rfl, sc__law_box.nd⟩
  (pfs_cons (pfs_set (i := 1) C.nd (pf_lst false (pfa_cons (pf_lst false pfa_nil) pfa_nil))) (pfs_cons (pfs_for hp C.calm (pfi_seq C.hK (pf_var 0)) (pfg_name (i := 2) C.nd) (pfs_cons (pfs_set (i := 3) C.nd (pf_lst true pfa_nil)) (pfs_cons (pfs_for hp C.calm (pfi_seq C.hK (pf_var 1)) (pfg_name (i := 4) C.nd) (pfs_one (pfs_for hp C.calm (pfi_range1 B.g_range (pfa_cons (pf_var 2) pfa_nil)) (pfg_name (i := 5) C.nd) (pfs_one (pfs_expr (pf_append C.hK (pf_var 3) (pfa_cons (pf_add false C.hK (pf_var 4) (pf_lst false (pfa_cons (pf_var 5) pfa_nil))) pfa_nil))))))) (pfs_frz 3 (pfs_one (pfs_set (i := 1) C.nd (pf_var 3))))))) (pfs_one (pfs_ret (pf_var 1)))))
/-! _law_classes -/
def N__law_classes : List Str := ["_law_limits_here", "_law_limit"]
def P__law_classes : List Str := ["_law_limits_here"]
def E0__law_classes : FE := (op2F (addX false) (op2F ixX (varF 1) (litF (.int 0))) (op2F ixX (varF 1) (litF (.int 1))))
def S__law_classes : FS := (retS (callF false F__law_box [] (consA (lcF false [1] (nameG 1) (iterF (varF 0)) yesF E0__law_classes) nilA)))
def F__law_classes : Fn := bodyF 1 S__law_classes
theorem sc__law_classes : FnScope N__law_classes P__law_classes (defScope (top 35)) := ⟨rfl, rfl, rfl, by decide +kernel, rfl, by decide +kernel, by decide +kernel⟩
theorem b__law_classes (B : Tb P K mg ct) (hD__law_box : Def (tx K ct) P w K mg base 1 "_law_box" ["_law_sizes"] [] F__law_box) (q : Qx) (W : WX) (hr : RoomG 1 q.A) (tk : Takes (mkX P w K mg base N__law_classes (defScope (top 35)) q) W) (hp : PassesOwn (model P w) q.A (enX (defScope (top 35)) q) q.xe) :
    PFSs (tx K ct) (mkX P w K mg base N__law_classes (defScope (top 35)) q) W (defBody (top 35)) S__law_classes :=
  have C : Cn (tx K ct) (mkX P w K mg base N__law_classes (defScope (top 35)) q) W 1 := ⟨rfl, hr, tk, rfl, sc__law_classes.nd⟩
  (pfs_one (pfs_ret (pf_callD false hD__law_box C (pfa_cons (pf_lc (own := [("_law_limit", 1)]) false C.calm C.nd (pfi_seq C.hK (pf_var 0)) (blkOk_by (by first | decide +kernel | rfl)) (fun _ _ _ _ _ => (pfg_name (i := 1) (Cn.blk C _ _ _ _ _).nd)) (fun _ _ _ _ _ => pts_yes) (fun _ _ _ _ _ => (pf_add false (Cn.blk C _ _ _ _ _).hK (pf_ix (Cn.blk C _ _ _ _ _).hK (pf_var 1) pf_int) (pf_ix (Cn.blk C _ _ _ _ _).hK (pf_var 1) pf_int)))) pfa_nil) (len_cons len_nil))))
/-! _law_least -/
def N__law_least : List Str := ["_law_limit", "_law_count"]
def P__law_least : List Str := ["_law_limit", "_law_count"]
def S__law_least : FS := (seqS (ifS (op2F (ltX) (varF 1) (op2F ixX (varF 0) (litF (.int 0)))) (retS (varF 1)) skipS) (retS (op2F (addX false) (op2F ixX (varF 0) (litF (.int 0))) (op2F modX (callBF intX (consA (op2F subX (varF 1) (op2F ixX (varF 0) (litF (.int 0)))) nilA)) (op2F ixX (varF 0) (litF (.int 1)))))))
def F__law_least : Fn := bodyF 0 S__law_least
theorem sc__law_least : FnScope N__law_least P__law_least (defScope (top 36)) := ⟨rfl, rfl, rfl, by decide +kernel, rfl, by decide +kernel, by decide +kernel⟩
theorem b__law_least (B : Tb P K mg ct) (q : Qx) (W : WX) (hr : RoomG 0 q.A) (tk : Takes (mkX P w K mg base N__law_least (defScope (top 36)) q) W) (hp : PassesOwn (model P w) q.A (enX (defScope (top 36)) q) q.xe) :
    PFSs (tx K ct) (mkX P w K mg base N__law_least (defScope (top 36)) q) W (defBody (top 36)) S__law_least :=
  have C : Cn (tx K ct) (mkX P w K mg base N__law_least (defScope (top 36)) q) W 0 := ⟨rfl, hr, tk, rfl, sc__law_least.nd⟩
  (pfs_cons (pfs_if (pft_cmp op_lt int2B_ok int2_bl (pf_var 1) (pf_ix C.hK (pf_var 0) pf_int) (nomark _)) (pfs_one (pfs_ret (pf_var 1))) pfs_nil) (pfs_one (pfs_ret (pf_add false C.hK (pf_ix C.hK (pf_var 0) pf_int) (pf_mod (pf_callTy (b_int C) int_ok B.g_int bt_int (pfa_cons (pf_sub (pf_var 1) (pf_ix C.hK (pf_var 0) pf_int)) pfa_nil)) (pf_ix C.hK (pf_var 0) pf_int))))))
/-! _law_class -/
def N__law_class : List Str := ["_law_limits_here", "_law_point", "_law_at"]
def P__law_class : List Str := ["_law_limits_here", "_law_point"]
def E0__law_class : FE := (callF false F__law_least [] (consA (op2F ixX (varF 0) (varF 2)) (consA (op2F ixX (varF 1) (varF 2)) nilA)))
def S__law_class : FS := (retS (lcF false [2] (nameG 2) (rng1F (consA (callBF lenX (consA (varF 0) nilA)) nilA)) yesF E0__law_class))
def F__law_class : Fn := bodyF 1 S__law_class
theorem sc__law_class : FnScope N__law_class P__law_class (defScope (top 37)) := ⟨rfl, rfl, rfl, by decide +kernel, rfl, by decide +kernel, by decide +kernel⟩
theorem b__law_class (B : Tb P K mg ct) (hD__law_least : Def (tx K ct) P w K mg base 1 "_law_least" ["_law_limit", "_law_count"] [] F__law_least) (q : Qx) (W : WX) (hr : RoomG 1 q.A) (tk : Takes (mkX P w K mg base N__law_class (defScope (top 37)) q) W) (hp : PassesOwn (model P w) q.A (enX (defScope (top 37)) q) q.xe) :
    PFSs (tx K ct) (mkX P w K mg base N__law_class (defScope (top 37)) q) W (defBody (top 37)) S__law_class :=
  have C : Cn (tx K ct) (mkX P w K mg base N__law_class (defScope (top 37)) q) W 1 := ⟨rfl, hr, tk, rfl, sc__law_class.nd⟩
  (pfs_one (pfs_ret (pf_lc (own := [("_law_at", 2)]) false C.calm C.nd (pfi_range1 B.g_range (pfa_cons (pf_callB (b_len C) len_ok B.g_len bt_len (pfa_cons (pf_var 0) pfa_nil)) pfa_nil)) (blkOk_by (by first | decide +kernel | rfl)) (fun _ _ _ _ _ => (pfg_name (i := 2) (Cn.blk C _ _ _ _ _).nd)) (fun _ _ _ _ _ => pts_yes) (fun _ _ _ _ _ => (pf_callD false hD__law_least (Cn.blk C _ _ _ _ _) (pfa_cons (pf_ix (Cn.blk C _ _ _ _ _).hK (pf_var 0) (pf_var 2)) (pfa_cons (pf_ix (Cn.blk C _ _ _ _ _).hK (pf_var 1) (pf_var 2)) pfa_nil)) (len_cons (len_cons len_nil)))))))
/-! _law_yes -/
def N__law_yes : List Str := ["_law_told", "_law_due"]
def P__law_yes : List Str := ["_law_told", "_law_due"]
def S__law_yes : FS := (retS (andF (callBF (isEX nC subB ownB exB) (consA (varF 0) (consA (litF (.ty "bool")) nilA))) (op2F (eqX false) (varF 0) (varF 1))))
def F__law_yes : Fn := bodyF 0 S__law_yes
theorem sc__law_yes : FnScope N__law_yes P__law_yes (defScope (top 38)) := ⟨rfl, rfl, rfl, by decide +kernel, rfl, by decide +kernel, by decide +kernel⟩
theorem b__law_yes (B : Tb P K mg ct) (q : Qx) (W : WX) (hr : RoomG 0 q.A) (tk : Takes (mkX P w K mg base N__law_yes (defScope (top 38)) q) W) (hp : PassesOwn (model P w) q.A (enX (defScope (top 38)) q) q.xe) :
    PFSs (tx K ct) (mkX P w K mg base N__law_yes (defScope (top 38)) q) W (defBody (top 38)) S__law_yes :=
  have C : Cn (tx K ct) (mkX P w K mg base N__law_yes (defScope (top 38)) q) W 0 := ⟨rfl, hr, tk, rfl, sc__law_yes.nd⟩
  (pfs_one (pfs_ret (pf_and (pf_callB (b_isi C) (isEX_ok B.txo B.tex) B.g_isinstance bt_isinstance (pfa_cons (pf_var 0) (pfa_cons (pf_ty B.g_bool bt_bool) pfa_nil))) (pf_one (pf_cmp (o_eq C) eq_ok (pf_var 0) (pf_var 1) (nomark _))))))
/-! _law_gcd -/
def N__law_gcd : List Str := ["_law_one", "_law_other_here"]
def P__law_gcd : List Str := ["_law_one", "_law_other_here"]
def B0__law_gcd : FS := (par2S 0 1 (consA (varF 1) (consA (op2F modX (callBF intX (consA (varF 0) nilA)) (varF 1)) nilA)))
def S__law_gcd : FS := (seqS (whileS (fun (ρ : Env') (_ : Sto) => match ρ[1]? with | some (some (Xv.d (D.int i))) => i.toNat + 1 | _ => 0) (op2F (gtX) (varF 1) (litF (.int 0))) B0__law_gcd) (retS (varF 0)))
def F__law_gcd : Fn := bodyF 0 S__law_gcd
theorem sc__law_gcd : FnScope N__law_gcd P__law_gcd (defScope (top 39)) := ⟨rfl, rfl, rfl, by decide +kernel, rfl, by decide +kernel, by decide +kernel⟩
theorem b__law_gcd (B : Tb P K mg ct) (q : Qx) (W : WX) (hr : RoomG 0 q.A) (tk : Takes (mkX P w K mg base N__law_gcd (defScope (top 39)) q) W) (hp : PassesOwn (model P w) q.A (enX (defScope (top 39)) q) q.xe) :
    PFSs (tx K ct) (mkX P w K mg base N__law_gcd (defScope (top 39)) q) W (defBody (top 39)) S__law_gcd :=
  have C : Cn (tx K ct) (mkX P w K mg base N__law_gcd (defScope (top 39)) q) W 0 := ⟨rfl, hr, tk, rfl, sc__law_gcd.nd⟩
  (pfs_cons (pfs_while (fun (ρ : Env') (_ : Sto) => match ρ[1]? with | some (some (Xv.d (D.int i))) => i.toNat + 1 | _ => 0) hp (pft_cmp op_gt int2B_ok int2_bl (pf_var 1) pf_int (nomark _)) (pfs_one (pfs_par2 (i := 0) (j := 1) C.calm C.nd (pfa_cons (pf_var 1) (pfa_cons (pf_mod (pf_callTy (b_int C) int_ok B.g_int bt_int (pfa_cons (pf_var 0) pfa_nil)) (pf_var 1)) pfa_nil))))) (pfs_one (pfs_ret (pf_var 0))))
/-! _law_lcm -/
def N__law_lcm : List Str := ["_law_one", "_law_other_here"]
def P__law_lcm : List Str := ["_law_one", "_law_other_here"]
def S__law_lcm : FS := (retS (op2F fdivX (op2F (mulX false) (varF 0) (varF 1)) (callF false F__law_gcd [] (consA (varF 0) (consA (varF 1) nilA)))))
def F__law_lcm : Fn := bodyF 0 S__law_lcm
theorem sc__law_lcm : FnScope N__law_lcm P__law_lcm (defScope (top 40)) := ⟨rfl, rfl, rfl, by decide +kernel, rfl, by decide +kernel, by decide +kernel⟩
theorem b__law_lcm (B : Tb P K mg ct) (hD__law_gcd : Def (tx K ct) P w K mg base 1 "_law_gcd" ["_law_one", "_law_other_here"] [] F__law_gcd) (q : Qx) (W : WX) (hr : RoomG 1 q.A) (tk : Takes (mkX P w K mg base N__law_lcm (defScope (top 40)) q) W) (hp : PassesOwn (model P w) q.A (enX (defScope (top 40)) q) q.xe) :
    PFSs (tx K ct) (mkX P w K mg base N__law_lcm (defScope (top 40)) q) W (defBody (top 40)) S__law_lcm :=
  have C : Cn (tx K ct) (mkX P w K mg base N__law_lcm (defScope (top 40)) q) W 1 := ⟨rfl, hr, tk, rfl, sc__law_lcm.nd⟩
  (pfs_one (pfs_ret (pf_fdiv (pf_mul false C.hK (pf_var 0) (pf_var 1)) (pf_callD false hD__law_gcd C (pfa_cons (pf_var 0) (pfa_cons (pf_var 1) pfa_nil)) (len_cons (len_cons len_nil))))))
/-! _law_put_at -/
def N__law_put_at : List Str := ["_law_point", "_law_at", "_law_count"]
def P__law_put_at : List Str := ["_law_point", "_law_at", "_law_count"]
def S__law_put_at : FS := (retS (op2F (addX false) (op2F (addX false) (slF false (varF 0) (litF .non) (intF (varF 1))) (lstF false (consA (varF 2) nilA))) (slF false (varF 0) (intF (op2F (addX false) (varF 1) (litF (.int 1)))) (litF .non))))
def F__law_put_at : Fn := bodyF 0 S__law_put_at
theorem sc__law_put_at : FnScope N__law_put_at P__law_put_at (defScope (top 41)) := ⟨rfl, rfl, rfl, by decide +kernel, rfl, by decide +kernel, by decide +kernel⟩
theorem b__law_put_at (B : Tb P K mg ct) (q : Qx) (W : WX) (hr : RoomG 0 q.A) (tk : Takes (mkX P w K mg base N__law_put_at (defScope (top 41)) q) W) (hp : PassesOwn (model P w) q.A (enX (defScope (top 41)) q) q.xe) :
    PFSs (tx K ct) (mkX P w K mg base N__law_put_at (defScope (top 41)) q) W (defBody (top 41)) S__law_put_at :=
  have C : Cn (tx K ct) (mkX P w K mg base N__law_put_at (defScope (top 41)) q) W 0 := ⟨rfl, hr, tk, rfl, sc__law_put_at.nd⟩
  (pfs_one (pfs_ret (pf_add false C.hK (pf_add false C.hK (pf_slice false C.hK (pf_var 0) pfo_none (pfo_some (pf_var 1))) (pf_lst false (pfa_cons (pf_var 2) pfa_nil))) (pf_slice false C.hK (pf_var 0) (pfo_some (pf_add false C.hK (pf_var 1) pf_int)) pfo_none))))
/-! _law_many -/
def N__law_many : List Str := ["_law_limits_here", "_law_found", "_law_limit"]
def P__law_many : List Str := ["_law_limits_here"]
def B0__law_many : FS := (setS 1 (op2F (mulX false) (varF 1) (op2F (addX false) (op2F ixX (varF 2) (litF (.int 0))) (op2F ixX (varF 2) (litF (.int 1))))))
def S__law_many : FS := (seqS (setS 1 (litF (.int 1))) (seqS (forS (nameG 2) (iterF (varF 0)) B0__law_many) (retS (varF 1))))
def F__law_many : Fn := bodyF 2 S__law_many
theorem sc__law_many : FnScope N__law_many P__law_many (defScope (top 42)) := ⟨rfl, rfl, rfl, by decide +kernel, rfl, by decide +kernel, by decide +kernel⟩
theorem b__law_many (B : Tb P K mg ct) (q : Qx) (W : WX) (hr : RoomG 0 q.A) (tk : Takes (mkX P w K mg base N__law_many (defScope (top 42)) q) W) (hp : PassesOwn (model P w) q.A (enX (defScope (top 42)) q) q.xe) :
    PFSs (tx K ct) (mkX P w K mg base N__law_many (defScope (top 42)) q) W (defBody (top 42)) S__law_many :=
  have C : Cn (tx K ct) (mkX P w K mg base N__law_many (defScope (top 42)) q) W 0 := ⟨rfl, hr, tk, rfl, sc__law_many.nd⟩
  (pfs_cons (pfs_set (i := 1) C.nd pf_int) (pfs_cons (pfs_for hp C.calm (pfi_seq C.hK (pf_var 0)) (pfg_name (i := 2) C.nd) (pfs_one (pfs_set (i := 1) C.nd (pf_mul false C.hK (pf_var 1) (pf_add false C.hK (pf_ix C.hK (pf_var 2) pf_int) (pf_ix C.hK (pf_var 2) pf_int)))))) (pfs_one (pfs_ret (pf_var 1)))))
/-! _law_other -/
def N__law_other : List Str := ["_law_generator_here", "_law_limits_here", "_law_found", "_law_way", "_law_at", "_law_threshold", "_law_period"]
def P__law_other : List Str := ["_law_generator_here", "_law_limits_here"]
def S__law_other : FS := (seqS (par2S 2 3 (consA (callBF (listX true) (consA (varF 1) nilA)) (consA (callF false F__law_random [] (consA (varF 0) (consA (litF (.int 5)) nilA))) nilA))) (seqS (ifS (orF (op2F (eqX false) (varF 3) (litF (.int 0))) (op2F (eqX false) (varF 1) (lstF false nilA))) (retS (callF false F__law_limits [] (consA (varF 0) (consA (callBF lenX (consA (varF 1) nilA)) (consA (litF (.int 3)) (consA (litF (.int 6)) nilA)))))) skipS) (seqS (setS 4 (callF false F__law_random [] (consA (varF 0) (consA (callBF lenX (consA (varF 1) nilA)) nilA)))) (seqS (asgS (tupG 2 (consG (nameG 5) (consG (nameG 6) nilG))) (op2F ixX (varF 1) (varF 4))) (seqS (ifS (op2F (eqX false) (varF 3) (litF (.int 1))) (setIxS (tupF (consA (op2F (addX false) (varF 5) (litF (.int 1))) (consA (varF 6) nilA))) (varF 2) (varF 4)) (ifS (op2F (eqX false) (varF 3) (litF (.int 2))) (setIxS (tupF (consA (varF 5) (consA (op2F (mulX false) (varF 6) (op2F (addX false) (litF (.int 2)) (callF false F__law_random [] (consA (varF 0) (consA (litF (.int 2)) nilA))))) nilA))) (varF 2) (varF 4)) (ifS (op2F (eqX false) (varF 3) (litF (.int 3))) (setIxS (tupF (consA (callBF maxX (consA (op2F subX (varF 5) (litF (.int 1))) (consA (litF (.int 0)) nilA))) (consA (varF 6) nilA))) (varF 2) (varF 4)) (setIxS (tupF (consA (varF 5) (consA (op2F (addX false) (litF (.int 1)) (callF false F__law_random [] (consA (varF 0) (consA (varF 6) nilA)))) nilA))) (varF 2) (varF 4))))) (retS (varF 2)))))))
def F__law_other : Fn := bodyF 5 S__law_other
theorem sc__law_other : FnScope N__law_other P__law_other (defScope (top 43)) := ⟨rfl, rfl, rfl, by decide +kernel, rfl, by decide +kernel, by decide +kernel⟩
theorem b__law_other (B : Tb P K mg ct) (hD__law_random : Def (tx K ct) P w K mg base 2 "_law_random" ["_law_generator_here", "_law_bound"] [] F__law_random) (hD__law_limits : Def (tx K ct) P w K mg base 3 "_law_limits" ["_law_generator_here", "_law_many_here", "_law_least_here", "_law_most"] [] F__law_limits) (q : Qx) (W : WX) (hr : RoomG 3 q.A) (tk : Takes (mkX P w K mg base N__law_other (defScope (top 43)) q) W) (hp : PassesOwn (model P w) q.A (enX (defScope (top 43)) q) q.xe) :
    PFSs (tx K ct) (mkX P w K mg base N__law_other (defScope (top 43)) q) W (defBody (top 43)) S__law_other :=
  have C : Cn (tx K ct) (mkX P w K mg base N__law_other (defScope (top 43)) q) W 3 := ⟨rfl, hr, tk, rfl, sc__law_other.nd⟩
  (pfs_cons (pfs_par2 (i := 2) (j := 3) C.calm C.nd (pfa_cons (pf_callTy (b_list C) (list_ok (m := true)) B.g_list bt_list (pfa_cons (pf_var 1) pfa_nil)) (pfa_cons (pf_callD false hD__law_random C (pfa_cons (pf_var 0) (pfa_cons pf_int pfa_nil)) (len_cons (len_cons len_nil))) pfa_nil))) (pfs_cons (pfs_if (pft_w (pfw_or (pft_cmp (o_eq C) eq_ok eqX_bl (pf_var 3) pf_int (nomark _)) (pfw_or1 (pft_cmp (o_eq C) eq_ok eqX_bl (pf_var 1) (pf_lst false pfa_nil) (nomark _))))) (pfs_one (pfs_ret (pf_callD false hD__law_limits C (pfa_cons (pf_var 0) (pfa_cons (pf_callB (b_len C) len_ok B.g_len bt_len (pfa_cons (pf_var 1) pfa_nil)) (pfa_cons pf_int (pfa_cons pf_int pfa_nil)))) (len_cons (len_cons (len_cons (len_cons len_nil))))))) pfs_nil) (pfs_cons (pfs_set (i := 4) C.nd (pf_callD false hD__law_random C (pfa_cons (pf_var 0) (pfa_cons (pf_callB (b_len C) len_ok B.g_len bt_len (pfa_cons (pf_var 1) pfa_nil)) pfa_nil)) (len_cons (len_cons len_nil)))) (pfs_cons (pfs_asg (pf_ix C.hK (pf_var 1) (pf_var 4)) (pfg_tup C.hK C.calm (pfgs_cons (pfg_name (i := 5) C.nd) (pfgs_cons (pfg_name (i := 6) C.nd) pfgs_nil)))) (pfs_cons (pfs_if (pft_cmp (o_eq C) eq_ok eqX_bl (pf_var 3) pf_int (nomark _)) (pfs_one (pfs_setIx (pf_tup (pfa_cons (pf_add false C.hK (pf_var 5) pf_int) (pfa_cons (pf_var 6) pfa_nil))) (pf_var 2) (pf_var 4))) (pfs_one (pfs_if (pft_cmp (o_eq C) eq_ok eqX_bl (pf_var 3) pf_int (nomark _)) (pfs_one (pfs_setIx (pf_tup (pfa_cons (pf_var 5) (pfa_cons (pf_mul false C.hK (pf_var 6) (pf_add false C.hK pf_int (pf_callD false hD__law_random C (pfa_cons (pf_var 0) (pfa_cons pf_int pfa_nil)) (len_cons (len_cons len_nil))))) pfa_nil))) (pf_var 2) (pf_var 4))) (pfs_one (pfs_if (pft_cmp (o_eq C) eq_ok eqX_bl (pf_var 3) pf_int (nomark _)) (pfs_one (pfs_setIx (pf_tup (pfa_cons (pf_callB (b_max C) max_ok B.g_max bt_max (pfa_cons (pf_sub (pf_var 5) pf_int) (pfa_cons pf_int pfa_nil))) (pfa_cons (pf_var 6) pfa_nil))) (pf_var 2) (pf_var 4))) (pfs_one (pfs_setIx (pf_tup (pfa_cons (pf_var 5) (pfa_cons (pf_add false C.hK pf_int (pf_callD false hD__law_random C (pfa_cons (pf_var 0) (pfa_cons (pf_var 6) pfa_nil)) (len_cons (len_cons len_nil)))) pfa_nil))) (pf_var 2) (pf_var 4)))))))) (pfs_one (pfs_ret (pf_var 2))))))))
/-! _law_refines -/
def N__law_refines : List Str := ["_law_one", "_law_other_here", "_law_at"]
def P__law_refines : List Str := ["_law_one", "_law_other_here"]
def B0__law_refines : FS := (ifS (orF (op2F (ltX) (op2F ixX (op2F ixX (varF 0) (varF 2)) (litF (.int 0))) (op2F ixX (op2F ixX (varF 1) (varF 2)) (litF (.int 0)))) (op2F (eqX true) (op2F modX (callBF intX (consA (op2F ixX (op2F ixX (varF 0) (varF 2)) (litF (.int 1))) nilA)) (op2F ixX (op2F ixX (varF 1) (varF 2)) (litF (.int 1)))) (litF (.int 0)))) (retS (litF (.bl false))) skipS)
def S__law_refines : FS := (seqS (forS (nameG 2) (rng1F (consA (callBF lenX (consA (varF 0) nilA)) nilA)) B0__law_refines) (retS (litF (.bl true))))
def F__law_refines : Fn := bodyF 1 S__law_refines
theorem sc__law_refines : FnScope N__law_refines P__law_refines (defScope (top 44)) := ⟨rfl, rfl, rfl, by decide +kernel, rfl, by decide +kernel, by decide +kernel⟩
theorem b__law_refines (B : Tb P K mg ct) (q : Qx) (W : WX) (hr : RoomG 0 q.A) (tk : Takes (mkX P w K mg base N__law_refines (defScope (top 44)) q) W) (hp : PassesOwn (model P w) q.A (enX (defScope (top 44)) q) q.xe) :
    PFSs (tx K ct) (mkX P w K mg base N__law_refines (defScope (top 44)) q) W (defBody (top 44)) S__law_refines :=
  have C : Cn (tx K ct) (mkX P w K mg base N__law_refines (defScope (top 44)) q) W 0 := ⟨rfl, hr, tk, rfl, sc__law_refines.nd⟩
  (pfs_cons (pfs_for hp C.calm (pfi_range1 B.g_range (pfa_cons (pf_callB (b_len C) len_ok B.g_len bt_len (pfa_cons (pf_var 0) pfa_nil)) pfa_nil)) (pfg_name (i := 2) C.nd) (pfs_one (pfs_if (pft_w (pfw_or (pft_cmp op_lt int2B_ok int2_bl (pf_ix C.hK (pf_ix C.hK (pf_var 0) (pf_var 2)) pf_int) (pf_ix C.hK (pf_ix C.hK (pf_var 1) (pf_var 2)) pf_int) (nomark _)) (pfw_or1 (pft_cmp (o_ne C) ne_ok eqX_bl (pf_mod (pf_callTy (b_int C) int_ok B.g_int bt_int (pfa_cons (pf_ix C.hK (pf_ix C.hK (pf_var 0) (pf_var 2)) pf_int) pfa_nil)) (pf_ix C.hK (pf_ix C.hK (pf_var 1) (pf_var 2)) pf_int)) pf_int (nomark _))))) (pfs_one (pfs_ret pf_bl)) pfs_nil))) (pfs_one (pfs_ret pf_bl)))
/-! _law_meeting -/
def N__law_meeting : List Str := ["_law_one", "_law_other_here", "_law_at"]
def P__law_meeting : List Str := ["_law_one", "_law_other_here"]
def E0__law_meeting : FE := (tupF (consA (callBF maxX (consA (op2F ixX (op2F ixX (varF 0) (varF 2)) (litF (.int 0))) (consA (op2F ixX (op2F ixX (varF 1) (varF 2)) (litF (.int 0))) nilA))) (consA (callF false F__law_lcm [] (consA (op2F ixX (op2F ixX (varF 0) (varF 2)) (litF (.int 1))) (consA (op2F ixX (op2F ixX (varF 1) (varF 2)) (litF (.int 1))) nilA))) nilA)))
def S__law_meeting : FS := (retS (lcF false [2] (nameG 2) (rng1F (consA (callBF lenX (consA (varF 0) nilA)) nilA)) yesF E0__law_meeting))
def F__law_meeting : Fn := bodyF 1 S__law_meeting
theorem sc__law_meeting : FnScope N__law_meeting P__law_meeting (defScope (top 45)) := ⟨rfl, rfl, rfl, by decide +kernel, rfl, by decide +kernel, by decide +kernel⟩
theorem b__law_meeting (B : Tb P K mg ct) (hD__law_lcm : Def (tx K ct) P w K mg base 2 "_law_lcm" ["_law_one", "_law_other_here"] [] F__law_lcm) (q : Qx) (W : WX) (hr : RoomG 2 q.A) (tk : Takes (mkX P w K mg base N__law_meeting (defScope (top 45)) q) W) (hp : PassesOwn (model P w) q.A (enX (defScope (top 45)) q) q.xe) :
    PFSs (tx K ct) (mkX P w K mg base N__law_meeting (defScope (top 45)) q) W (defBody (top 45)) S__law_meeting :=
  have C : Cn (tx K ct) (mkX P w K mg base N__law_meeting (defScope (top 45)) q) W 2 := ⟨rfl, hr, tk, rfl, sc__law_meeting.nd⟩
  (pfs_one (pfs_ret (pf_lc (own := [("_law_at", 2)]) false C.calm C.nd (pfi_range1 B.g_range (pfa_cons (pf_callB (b_len C) len_ok B.g_len bt_len (pfa_cons (pf_var 0) pfa_nil)) pfa_nil)) (blkOk_by (by first | decide +kernel | rfl)) (fun _ _ _ _ _ => (pfg_name (i := 2) (Cn.blk C _ _ _ _ _).nd)) (fun _ _ _ _ _ => pts_yes) (fun _ _ _ _ _ => (pf_tup (pfa_cons (pf_callB (b_max (Cn.blk C _ _ _ _ _)) max_ok B.g_max bt_max (pfa_cons (pf_ix (Cn.blk C _ _ _ _ _).hK (pf_ix (Cn.blk C _ _ _ _ _).hK (pf_var 0) (pf_var 2)) pf_int) (pfa_cons (pf_ix (Cn.blk C _ _ _ _ _).hK (pf_ix (Cn.blk C _ _ _ _ _).hK (pf_var 1) (pf_var 2)) pf_int) pfa_nil))) (pfa_cons (pf_callD false hD__law_lcm (Cn.blk C _ _ _ _ _) (pfa_cons (pf_ix (Cn.blk C _ _ _ _ _).hK (pf_ix (Cn.blk C _ _ _ _ _).hK (pf_var 0) (pf_var 2)) pf_int) (pfa_cons (pf_ix (Cn.blk C _ _ _ _ _).hK (pf_ix (Cn.blk C _ _ _ _ _).hK (pf_var 1) (pf_var 2)) pf_int) pfa_nil)) (len_cons (len_cons len_nil))) pfa_nil)))))))
/-! _law_lies_within -/
def N__law_lies_within : List Str := ["_law_limits_here", "_law_other_here", "_law_point", "_law_at", "_law_turn", "_law_more"]
def P__law_lies_within : List Str := ["_law_limits_here", "_law_other_here"]
def B0__law_lies_within : FS := (seqS (setS 5 (callF false F__law_put_at [] (consA (varF 2) (consA (varF 3) (consA (op2F (addX false) (op2F ixX (varF 2) (varF 3)) (op2F (mulX false) (varF 4) (op2F ixX (op2F ixX (varF 0) (varF 3)) (litF (.int 1))))) nilA))))) (ifS (andF (op2F (geX) (op2F ixX (varF 2) (varF 3)) (op2F ixX (op2F ixX (varF 0) (varF 3)) (litF (.int 0)))) (op2F (eqX true) (callF false F_class_of [] (consA (varF 1) (consA (callBF (listX false) (consA (varF 5) nilA)) nilA))) (callF false F_class_of [] (consA (varF 1) (consA (callBF (listX false) (consA (varF 2) nilA)) nilA))))) (retS (litF (.bl false))) skipS))
def B1__law_lies_within : FS := (forS (nameG 4) (rng2F (consA (litF (.int 1)) (consA (litF (.int 3)) nilA))) B0__law_lies_within)
def B2__law_lies_within : FS := (forS (nameG 3) (rng1F (consA (callBF lenX (consA (varF 0) nilA)) nilA)) B1__law_lies_within)
def S__law_lies_within : FS := (seqS (forS (nameG 2) (iterF (callF false F__law_classes [] (consA (varF 0) nilA))) B2__law_lies_within) (retS (litF (.bl true))))
def F__law_lies_within : Fn := bodyF 4 S__law_lies_within
theorem sc__law_lies_within : FnScope N__law_lies_within P__law_lies_within (defScope (top 46)) := ⟨rfl, rfl, rfl, by decide +kernel, rfl, by decide +kernel, by decide +kernel⟩
theorem b__law_lies_within (B : Tb P K mg ct) (hD__law_classes : Def (tx K ct) P w K mg base 2 "_law_classes" ["_law_limits_here"] [] F__law_classes) (hD__law_put_at : Def (tx K ct) P w K mg base 1 "_law_put_at" ["_law_point", "_law_at", "_law_count"] [] F__law_put_at) (hD_class_of : Def (tx K ct) P w K mg base 6 "class_of" ["grid", "point"] [] F_class_of) (q : Qx) (W : WX) (hr : RoomG 6 q.A) (tk : Takes (mkX P w K mg base N__law_lies_within (defScope (top 46)) q) W) (hp : PassesOwn (model P w) q.A (enX (defScope (top 46)) q) q.xe) :
    PFSs (tx K ct) (mkX P w K mg base N__law_lies_within (defScope (top 46)) q) W (defBody (top 46)) S__law_lies_within :=
  have C : Cn (tx K ct) (mkX P w K mg base N__law_lies_within (defScope (top 46)) q) W 6 := ⟨rfl, hr, tk, rfl, sc__law_lies_within.nd⟩
  (pfs_cons (pfs_for hp C.calm (pfi_seq C.hK (pf_callD false hD__law_classes C (pfa_cons (pf_var 0) pfa_nil) (len_cons len_nil))) (pfg_name (i := 2) C.nd) (pfs_one (pfs_for hp C.calm (pfi_range1 B.g_range (pfa_cons (pf_callB (b_len C) len_ok B.g_len bt_len (pfa_cons (pf_var 0) pfa_nil)) pfa_nil)) (pfg_name (i := 3) C.nd) (pfs_one (pfs_for hp C.calm (pfi_range2 B.g_range (pfa_cons pf_int (pfa_cons pf_int pfa_nil))) (pfg_name (i := 4) C.nd) (pfs_cons (pfs_set (i := 5) C.nd (pf_callD false hD__law_put_at C (pfa_cons (pf_var 2) (pfa_cons (pf_var 3) (pfa_cons (pf_add false C.hK (pf_ix C.hK (pf_var 2) (pf_var 3)) (pf_mul false C.hK (pf_var 4) (pf_ix C.hK (pf_ix C.hK (pf_var 0) (pf_var 3)) pf_int))) pfa_nil))) (len_cons (len_cons (len_cons len_nil))))) (pfs_one (pfs_if (pft_w (pfw_and (pft_cmp op_ge int2B_ok int2_bl (pf_ix C.hK (pf_var 2) (pf_var 3)) (pf_ix C.hK (pf_ix C.hK (pf_var 0) (pf_var 3)) pf_int) (nomark _)) (pfw_and1 (pft_cmp (o_ne C) ne_ok eqX_bl (pf_callD false hD_class_of C (pfa_cons (pf_var 1) (pfa_cons (pf_callTy (b_list C) (list_ok (m := false)) B.g_list bt_list (pfa_cons (pf_var 5) pfa_nil)) pfa_nil)) (len_cons (len_cons len_nil))) (pf_callD false hD_class_of C (pfa_cons (pf_var 1) (pfa_cons (pf_callTy (b_list C) (list_ok (m := false)) B.g_list bt_list (pfa_cons (pf_var 2) pfa_nil)) pfa_nil)) (len_cons (len_cons len_nil))) (nomark _))))) (pfs_one (pfs_ret pf_bl)) pfs_nil)))))))) (pfs_one (pfs_ret pf_bl)))
/-! _law_pair_good -/
def N__law_pair_good : List Str := ["_law_generator_here", "_law_one", "_law_other_here", "_law_low", "_law_high", "_law_due", "_law_both", "_law_found", "_law_many_here", "_law_error", "_law_more", "_law_least_here"]
def P__law_pair_good : List Str := ["_law_generator_here", "_law_one", "_law_other_here"]
def B0__law_pair_good : FS := (setS 7 (callF false F_meeting [] (consA (varF 3) (consA (varF 4) nilA))))
def S__law_pair_good : FS := (seqS (par2S 3 4 (consA (makeF false 6 F_Grid___init__ [] (consA (callBF (listX false) (consA (varF 1) nilA)) nilA)) (consA (makeF false 6 F_Grid___init__ [] (consA (callBF (listX false) (consA (varF 2) nilA)) nilA)) nilA))) (seqS (setS 5 (callF false F__law_refines [] (consA (varF 1) (consA (varF 2) nilA)))) (seqS (ifS (orF (notF (callF false F__law_yes [] (consA (callF false F_refines [] (consA (varF 3) (consA (varF 4) nilA))) (consA (varF 5) nilA)))) (op2F (eqX true) (callF false F__law_lies_within [] (consA (varF 1) (consA (varF 4) nilA))) (varF 5))) (retS (litF (.bl false))) skipS) (seqS (ifS (orF (op2F (isBlX true) (callF false F_refines [] (consA (varF 3) (consA (varF 3) nilA))) (litF (.bl true))) (notF (callF false F__law_yes [] (consA (op2F (eqOX 6 F_Grid___eq__) (varF 3) (varF 4)) (consA (op2F (eqOX 6 F_Grid___eq__) (varF 1) (varF 2)) nilA))))) (retS (litF (.bl false))) skipS) (seqS (par3S 6 7 8 (consA (callF false F__law_meeting [] (consA (varF 1) (consA (varF 2) nilA))) (consA (litF .non) (consA (litF .non) nilA)))) (seqS (tryValS subB exB 5 9 8 B0__law_pair_good) (seqS (ifS (op2F (gtX) (callF false F__law_many [] (consA (varF 6) nilA)) (litF (.int 600))) (retS (andF (op2F (isNoneX false) (varF 7) (litF .non)) (op2F (eqX false) (varF 8) (callF false F__law_many [] (consA (varF 6) nilA))))) skipS) (seqS (ifS (orF (notF (callBF (isEX nC subB ownB exB) (consA (varF 7) (consA (litF (.cls 6)) nilA)))) (orF (op2F (eqX true) (methF false 6 "limits" F_Grid_limits [] (varF 7) nilA) (varF 6)) (op2F (isBlX true) (op2F (eqOX 6 F_Grid___eq__) (callKF false 2 2 F_meeting [0, 1] (consA (varF 4) (consA (varF 3) nilA))) (varF 7)) (litF (.bl true))))) (retS (litF (.bl false))) skipS) (seqS (ifS (orF (op2F (isBlX true) (callF false F_refines [] (consA (varF 7) (consA (varF 3) nilA))) (litF (.bl true))) (op2F (isBlX true) (callKF false 2 2 F_refines [0, 1] (consA (varF 7) (consA (varF 4) nilA))) (litF (.bl true)))) (retS (litF (.bl false))) skipS) (seqS (ifS (orF (op2F (eqX true) (methF false 6 "limits" F_Grid_limits [] (callF false F_meeting [] (consA (varF 3) (consA (varF 3) nilA))) nilA) (varF 1)) (orF (op2F (eqX true) (methF false 6 "limits" F_Grid_limits [] (callF false F_meeting [] (consA (varF 3) (consA (varF 4) nilA))) nilA) (varF 6)) (op2F (isBlX true) (callF false F_refines [] (consA (varF 3) (consA (varF 3) nilA))) (litF (.bl true))))) (retS (litF (.bl false))) skipS) (seqS (ifS (orF (op2F (eqX true) (callF false F_class_of [] (consA (varF 7) (consA (op2F (mulX false) (lstF false (consA (litF (.int 41)) nilA)) (callBF lenX (consA (varF 1) nilA))) nilA))) (callF false F__law_class [] (consA (varF 6) (consA (op2F (mulX false) (lstF false (consA (litF (.int 41)) nilA)) (callBF lenX (consA (varF 1) nilA))) nilA)))) (op2F (isBlX true) (op2F (eqOX 6 F_Grid___eq__) (callF false F_meeting [] (consA (varF 7) (consA (varF 3) nilA))) (varF 7)) (litF (.bl true)))) (retS (litF (.bl false))) skipS) (seqS (setS 10 (callF false F__law_other [] (consA (varF 0) (consA (varF 6) nilA)))) (seqS (ifS (op2F (gtX) (callF false F__law_many [] (consA (varF 10) nilA)) (litF (.int 600))) (retS (litF (.bl true))) skipS) (seqS (setS 11 (andF (callF false F__law_refines [] (consA (varF 10) (consA (varF 1) nilA))) (callF false F__law_refines [] (consA (varF 10) (consA (varF 2) nilA))))) (retS (orF (notF (varF 11)) (op2F (isBlX false) (callF false F_refines [] (consA (makeF false 6 F_Grid___init__ [] (consA (callBF (listX false) (consA (varF 10) nilA)) nilA)) (consA (varF 7) nilA))) (litF (.bl true)))))))))))))))))))
def F__law_pair_good : Fn := bodyF 9 S__law_pair_good
theorem sc__law_pair_good : FnScope N__law_pair_good P__law_pair_good (defScope (top 47)) := ⟨rfl, rfl, rfl, by decide +kernel, rfl, by decide +kernel, by decide +kernel⟩
theorem b__law_pair_good (B : Tb P K mg ct) (hM_Grid___init__ : DefM (tx K ct) P w K mg base 4 "Grid" 6 ["self", "limits"] [] F_Grid___init__) (hD__law_refines : Def (tx K ct) P w K mg base 1 "_law_refines" ["_law_one", "_law_other_here"] [] F__law_refines) (hD__law_yes : Def (tx K ct) P w K mg base 1 "_law_yes" ["_law_told", "_law_due"] [] F__law_yes) (hD_refines : Def (tx K ct) P w K mg base 3 "refines" ["one", "other"] [] F_refines) (hD__law_lies_within : Def (tx K ct) P w K mg base 7 "_law_lies_within" ["_law_limits_here", "_law_other_here"] [] F__law_lies_within) (hE_Grid___eq__ : TxEq (tx K ct) P w K mg base 1 6 F_Grid___eq__) (hD__law_meeting : Def (tx K ct) P w K mg base 3 "_law_meeting" ["_law_one", "_law_other_here"] [] F__law_meeting) (hD_meeting : Def (tx K ct) P w K mg base 6 "meeting" ["one", "other"] [] F_meeting) (hD__law_many : Def (tx K ct) P w K mg base 1 "_law_many" ["_law_limits_here"] [] F__law_many) (hO_Grid_limits : DefO (tx K ct) P w K mg base 1 6 "limits" ["self"] [] F_Grid_limits) (hDK_meeting_0 : DefK (tx K ct) P w K mg base 6 "meeting" ["one", "other"] ["one", "other"] [0, 1] F_meeting) (hDK_refines_0 : DefK (tx K ct) P w K mg base 3 "refines" ["one", "other"] ["one", "other"] [0, 1] F_refines) (hD_class_of : Def (tx K ct) P w K mg base 6 "class_of" ["grid", "point"] [] F_class_of) (hD__law_class : Def (tx K ct) P w K mg base 2 "_law_class" ["_law_limits_here", "_law_point"] [] F__law_class) (hD__law_other : Def (tx K ct) P w K mg base 4 "_law_other" ["_law_generator_here", "_law_limits_here"] [] F__law_other) (q : Qx) (W : WX) (hr : RoomG 7 q.A) (tk : Takes (mkX P w K mg base N__law_pair_good (defScope (top 47)) q) W) (hp : PassesOwn (model P w) q.A (enX (defScope (top 47)) q) q.xe) :
    PFSs (tx K ct) (mkX P w K mg base N__law_pair_good (defScope (top 47)) q) W (defBody (top 47)) S__law_pair_good :=
  have C : Cn (tx K ct) (mkX P w K mg base N__law_pair_good (defScope (top 47)) q) W 7 := ⟨rfl, hr, tk, rfl, sc__law_pair_good.nd⟩
  (pfs_cons (pfs_par2 (i := 3) (j := 4) C.calm C.nd (pfa_cons (pf_make false hM_Grid___init__ C (pfa_cons (pf_callTy (b_list C) (list_ok (m := false)) B.g_list bt_list (pfa_cons (pf_var 1) pfa_nil)) pfa_nil) (len_cons len_nil)) (pfa_cons (pf_make false hM_Grid___init__ C (pfa_cons (pf_callTy (b_list C) (list_ok (m := false)) B.g_list bt_list (pfa_cons (pf_var 2) pfa_nil)) pfa_nil) (len_cons len_nil)) pfa_nil))) (pfs_cons (pfs_set (i := 5) C.nd (pf_callD false hD__law_refines C (pfa_cons (pf_var 1) (pfa_cons (pf_var 2) pfa_nil)) (len_cons (len_cons len_nil)))) (pfs_cons (pfs_if (pft_w (pfw_or (pft_not (pft_of C.hK (pf_callD false hD__law_yes C (pfa_cons (pf_callD false hD_refines C (pfa_cons (pf_var 3) (pfa_cons (pf_var 4) pfa_nil)) (len_cons (len_cons len_nil))) (pfa_cons (pf_var 5) pfa_nil)) (len_cons (len_cons len_nil))))) (pfw_or1 (pft_cmp (o_ne C) ne_ok eqX_bl (pf_callD false hD__law_lies_within C (pfa_cons (pf_var 1) (pfa_cons (pf_var 4) pfa_nil)) (len_cons (len_cons len_nil))) (pf_var 5) (nomark _))))) (pfs_one (pfs_ret pf_bl)) pfs_nil) (pfs_cons (pfs_if (pft_w (pfw_or (pft_cmp op_notBl notBl_ok isBlX_bl (pf_callD false hD_refines C (pfa_cons (pf_var 3) (pfa_cons (pf_var 3) pfa_nil)) (len_cons (len_cons len_nil))) pf_bl (nomark _)) (pfw_or1 (pft_not (pft_of C.hK (pf_callD false hD__law_yes C (pfa_cons (pf_cmp (o_eqO hE_Grid___eq__ C) (eqO_ok hE_Grid___eq__) (pf_var 3) (pf_var 4) (nomark _)) (pfa_cons (pf_cmp (o_eqO hE_Grid___eq__ C) (eqO_ok hE_Grid___eq__) (pf_var 1) (pf_var 2) (nomark _)) pfa_nil)) (len_cons (len_cons len_nil)))))))) (pfs_one (pfs_ret pf_bl)) pfs_nil) (pfs_cons (pfs_par3 (i := 6) (j := 7) (l := 8) C.calm C.nd (pfa_cons (pf_callD false hD__law_meeting C (pfa_cons (pf_var 1) (pfa_cons (pf_var 2) pfa_nil)) (len_cons (len_cons len_nil))) (pfa_cons pf_non (pfa_cons pf_non pfa_nil)))) (pfs_cons (pfs_tryVal (k := 5) (i := 9) (j := 8) B.tex C.hK rfl rfl rfl (fun _ => rfl) C.tk rfl B.m_TooMany C.nd (fun W2 pn2 xe2 tk2 hp2 => (pfs_one (pfs_set (i := 7) (Cn.tr C tk2).nd (pf_callD false hD_meeting (Cn.tr C tk2) (pfa_cons (pf_var 3) (pfa_cons (pf_var 4) pfa_nil)) (len_cons (len_cons len_nil))))))) (pfs_cons (pfs_if (pft_cmp op_gt int2B_ok int2_bl (pf_callD false hD__law_many C (pfa_cons (pf_var 6) pfa_nil) (len_cons len_nil)) pf_int (nomark _)) (pfs_one (pfs_ret (pf_and (pf_cmp op_isN isNone_ok (pf_var 7) pf_non (nomark _)) (pf_one (pf_cmp (o_eq C) eq_ok (pf_var 8) (pf_callD false hD__law_many C (pfa_cons (pf_var 6) pfa_nil) (len_cons len_nil)) (nomark _)))))) pfs_nil) (pfs_cons (pfs_if (pft_w (pfw_or (pft_not (pft_of C.hK (pf_callB (b_isi C) (isEX_ok B.txo B.tex) B.g_isinstance bt_isinstance (pfa_cons (pf_var 7) (pfa_cons (pf_gcls 6 B.m_Grid) pfa_nil))))) (pfw_or (pft_cmp (o_ne C) ne_ok eqX_bl (pf_meth0 false hO_Grid_limits C (pf_var 7)) (pf_var 6) (nomark _)) (pfw_or1 (pft_cmp op_notBl notBl_ok isBlX_bl (pf_cmp (o_eqO hE_Grid___eq__ C) (eqO_ok hE_Grid___eq__) (pf_callDK false hDK_meeting_0 C (pfk_cons (pf_var 4) (pfk_cons (pf_var 3) pfk_nil))) (pf_var 7) (nomark _)) pf_bl (nomark _)))))) (pfs_one (pfs_ret pf_bl)) pfs_nil) (pfs_cons (pfs_if (pft_w (pfw_or (pft_cmp op_notBl notBl_ok isBlX_bl (pf_callD false hD_refines C (pfa_cons (pf_var 7) (pfa_cons (pf_var 3) pfa_nil)) (len_cons (len_cons len_nil))) pf_bl (nomark _)) (pfw_or1 (pft_cmp op_notBl notBl_ok isBlX_bl (pf_callDK false hDK_refines_0 C (pfk_cons (pf_var 7) (pfk_cons (pf_var 4) pfk_nil))) pf_bl (nomark _))))) (pfs_one (pfs_ret pf_bl)) pfs_nil) (pfs_cons (pfs_if (pft_w (pfw_or (pft_cmp (o_ne C) ne_ok eqX_bl (pf_meth0 false hO_Grid_limits C (pf_callD false hD_meeting C (pfa_cons (pf_var 3) (pfa_cons (pf_var 3) pfa_nil)) (len_cons (len_cons len_nil)))) (pf_var 1) (nomark _)) (pfw_or (pft_cmp (o_ne C) ne_ok eqX_bl (pf_meth0 false hO_Grid_limits C (pf_callD false hD_meeting C (pfa_cons (pf_var 3) (pfa_cons (pf_var 4) pfa_nil)) (len_cons (len_cons len_nil)))) (pf_var 6) (nomark _)) (pfw_or1 (pft_cmp op_notBl notBl_ok isBlX_bl (pf_callD false hD_refines C (pfa_cons (pf_var 3) (pfa_cons (pf_var 3) pfa_nil)) (len_cons (len_cons len_nil))) pf_bl (nomark _)))))) (pfs_one (pfs_ret pf_bl)) pfs_nil) (pfs_cons (pfs_if (pft_w (pfw_or (pft_cmp (o_ne C) ne_ok eqX_bl (pf_callD false hD_class_of C (pfa_cons (pf_var 7) (pfa_cons (pf_mul false C.hK (pf_lst false (pfa_cons pf_int pfa_nil)) (pf_callB (b_len C) len_ok B.g_len bt_len (pfa_cons (pf_var 1) pfa_nil))) pfa_nil)) (len_cons (len_cons len_nil))) (pf_callD false hD__law_class C (pfa_cons (pf_var 6) (pfa_cons (pf_mul false C.hK (pf_lst false (pfa_cons pf_int pfa_nil)) (pf_callB (b_len C) len_ok B.g_len bt_len (pfa_cons (pf_var 1) pfa_nil))) pfa_nil)) (len_cons (len_cons len_nil))) (nomark _)) (pfw_or1 (pft_cmp op_notBl notBl_ok isBlX_bl (pf_cmp (o_eqO hE_Grid___eq__ C) (eqO_ok hE_Grid___eq__) (pf_callD false hD_meeting C (pfa_cons (pf_var 7) (pfa_cons (pf_var 3) pfa_nil)) (len_cons (len_cons len_nil))) (pf_var 7) (nomark _)) pf_bl (nomark _))))) (pfs_one (pfs_ret pf_bl)) pfs_nil) (pfs_cons (pfs_set (i := 10) C.nd (pf_callD false hD__law_other C (pfa_cons (pf_var 0) (pfa_cons (pf_var 6) pfa_nil)) (len_cons (len_cons len_nil)))) (pfs_cons (pfs_if (pft_cmp op_gt int2B_ok int2_bl (pf_callD false hD__law_many C (pfa_cons (pf_var 10) pfa_nil) (len_cons len_nil)) pf_int (nomark _)) (pfs_one (pfs_ret pf_bl)) pfs_nil) (pfs_cons (pfs_set (i := 11) C.nd (pf_and (pf_callD false hD__law_refines C (pfa_cons (pf_var 10) (pfa_cons (pf_var 1) pfa_nil)) (len_cons (len_cons len_nil))) (pf_one (pf_callD false hD__law_refines C (pfa_cons (pf_var 10) (pfa_cons (pf_var 2) pfa_nil)) (len_cons (len_cons len_nil)))))) (pfs_one (pfs_ret (pf_or (pf_not (pf_var 11)) (pf_one (pf_cmp op_isBl isBl_ok (pf_callD false hD_refines C (pfa_cons (pf_make false hM_Grid___init__ C (pfa_cons (pf_callTy (b_list C) (list_ok (m := false)) B.g_list bt_list (pfa_cons (pf_var 10) pfa_nil)) pfa_nil) (len_cons len_nil)) (pfa_cons (pf_var 7) pfa_nil)) (len_cons (len_cons len_nil))) pf_bl (nomark _))))))))))))))))))))
/-! _law_caught -/
def N__law_caught : List Str := ["_law_which", "_law_one", "_law_other_here", "_law_error", "e", "_law_kinds"]
def P__law_caught : List Str := ["_law_which", "_law_one", "_law_other_here"]
def B0__law_caught : FS := (ifS (op2F (eqX false) (varF 0) (litF (.int 0))) (exprS (callF false F_refines [] (consA (varF 1) (consA (varF 2) nilA)))) (exprS (callF false F_meeting [] (consA (varF 1) (consA (varF 2) nilA)))))
def S__law_caught : FS := (seqS (setS 3 (litF .non)) (seqS (tryKeepS subB exB 0 4 3 B0__law_caught) (seqS (setS 5 (lstF false (consA (callBF (isEX nC subB ownB exB) (consA (varF 3) (consA (litF (.cls 3)) nilA))) (consA (callBF (isEX nC subB ownB exB) (consA (varF 3) (consA (litF (.cls 4)) nilA))) (consA (callBF (isEX nC subB ownB exB) (consA (varF 3) (consA (litF (.cls 5)) nilA))) nilA))))) (retS (lstF false (consA (varF 5) (consA (ifF (op2F (isNoneX false) (varF 3) (litF .non)) (litF .non) (excF exB "value" (varF 3))) nilA)))))))
def F__law_caught : Fn := bodyF 3 S__law_caught
theorem sc__law_caught : FnScope N__law_caught P__law_caught (defScope (top 48)) := ⟨rfl, rfl, rfl, by decide +kernel, rfl, by decide +kernel, by decide +kernel⟩
theorem b__law_caught (B : Tb P K mg ct) (hD_refines : Def (tx K ct) P w K mg base 3 "refines" ["one", "other"] [] F_refines) (hD_meeting : Def (tx K ct) P w K mg base 6 "meeting" ["one", "other"] [] F_meeting) (q : Qx) (W : WX) (hr : RoomG 6 q.A) (tk : Takes (mkX P w K mg base N__law_caught (defScope (top 48)) q) W) (hp : PassesOwn (model P w) q.A (enX (defScope (top 48)) q) q.xe) :
    PFSs (tx K ct) (mkX P w K mg base N__law_caught (defScope (top 48)) q) W (defBody (top 48)) S__law_caught :=
  have C : Cn (tx K ct) (mkX P w K mg base N__law_caught (defScope (top 48)) q) W 6 := ⟨rfl, hr, tk, rfl, sc__law_caught.nd⟩
  (pfs_cons (pfs_set (i := 3) C.nd pf_non) (pfs_cons (pfs_tryKeep (k := 0) (i := 4) (j := 3) B.tex C.hK rfl rfl rfl (fun _ => rfl) C.tk rfl B.m_LoopError C.nd (fun W2 pn2 xe2 tk2 hp2 => (pfs_one (pfs_if (pft_cmp (o_eq (Cn.tr C tk2)) eq_ok eqX_bl (pf_var 0) pf_int (nomark _)) (pfs_one (pfs_expr (pf_callD false hD_refines (Cn.tr C tk2) (pfa_cons (pf_var 1) (pfa_cons (pf_var 2) pfa_nil)) (len_cons (len_cons len_nil))))) (pfs_one (pfs_expr (pf_callD false hD_meeting (Cn.tr C tk2) (pfa_cons (pf_var 1) (pfa_cons (pf_var 2) pfa_nil)) (len_cons (len_cons len_nil))))))))) (pfs_cons (pfs_set (i := 5) C.nd (pf_lst false (pfa_cons (pf_callB (b_isi C) (isEX_ok B.txo B.tex) B.g_isinstance bt_isinstance (pfa_cons (pf_var 3) (pfa_cons (pf_gcls 3 B.m_InvalidGrid) pfa_nil))) (pfa_cons (pf_callB (b_isi C) (isEX_ok B.txo B.tex) B.g_isinstance bt_isinstance (pfa_cons (pf_var 3) (pfa_cons (pf_gcls 4 B.m_Unlike) pfa_nil))) (pfa_cons (pf_callB (b_isi C) (isEX_ok B.txo B.tex) B.g_isinstance bt_isinstance (pfa_cons (pf_var 3) (pfa_cons (pf_gcls 5 B.m_TooMany) pfa_nil))) pfa_nil))))) (pfs_one (pfs_ret (pf_lst false (pfa_cons (pf_var 5) (pfa_cons (pf_if (pft_cmp op_isN isNone_ok isNoneX_bl (pf_var 3) pf_non (nomark _)) pf_non (pf_excF B.tex C.hK (pf_var 3))) pfa_nil))))))))
/-! law -/
def N_law : List Str := ["_law_script", "_law_index", "_law_generator_here", "_law_one", "_law_other_here", "_law_few", "_law_more", "_law_which", "_law_bad", "_law_pair"]
def P_law : List Str := ["_law_script"]
def B0_law : FS := (setS 3 (slF false (varF 3) (intF (litF (.int 1))) (litF .non)))
def B1_law : FS := (seqS (setS 2 (callF true F__law_generator [] (consA (varF 0) (consA (varF 1) nilA)))) (seqS (setS 3 (callF false F__law_limits [] (consA (varF 2) (consA (callF false F__law_random [] (consA (varF 2) (consA (litF (.int 4)) nilA))) (consA (litF (.int 3)) (consA (litF (.int 6)) nilA)))))) (seqS (whileS (fun _ _ => 5) (op2F (gtX) (callF false F__law_many [] (consA (varF 3) nilA)) (litF (.int 600))) B0_law) (seqS (setS 4 (callF false F__law_other [] (consA (varF 2) (consA (varF 3) nilA)))) (ifS (andF (op2F (leX) (callF false F__law_many [] (consA (varF 4) nilA)) (litF (.int 600))) (notF (callF false F__law_pair_good [] (consA (varF 2) (consA (varF 3) (consA (varF 4) nilA)))))) (retS (litF (.bl false))) skipS)))))
def T2_law : FE := (op2F (isBlX true) (op2F (eqOX 6 F_Grid___eq__) (varF 5) (varF 4)) (litF (.bl false)))
def E3_law : FE := (varF 4)
def B4_law : FS := (seqS (ifS (op2F (eqX true) (callF false F__law_caught [] (consA (varF 7) (consA (varF 8) (consA (litF .non) nilA)))) (lstF false (consA (lstF false (consA (litF (.bl true)) (consA (litF (.bl false)) (consA (litF (.bl false)) nilA)))) (consA (varF 8) nilA)))) (retS (litF (.bl false))) skipS) (ifS (op2F (eqX true) (callF false F__law_caught [] (consA (varF 7) (consA (varF 5) (consA (varF 8) nilA)))) (lstF false (consA (lstF false (consA (litF (.bl true)) (consA (litF (.bl false)) (consA (litF (.bl false)) nilA)))) (consA (varF 8) nilA)))) (retS (litF (.bl false))) skipS))
def B5_law : FS := (ifS (op2F (neOX 6 F_Grid___eq__) (callF false F__law_caught [] (consA (varF 7) (consA (op2F ixX (varF 9) (litF (.int 0))) (consA (op2F ixX (varF 9) (litF (.int 1))) nilA)))) (lstF false (consA (lstF false (consA (litF (.bl false)) (consA (litF (.bl true)) (consA (litF (.bl false)) nilA)))) (consA (op2F ixX (varF 9) (litF (.int 1))) nilA)))) (retS (litF (.bl false))) skipS)
def B6_law : FS := (seqS (forS (nameG 8) (iterF (lstF false (consA (litF .non) (consA (lstF false (consA (tupF (consA (litF (.int 1)) (consA (litF (.int 2)) nilA))) nilA)) (consA (litF (.int 3)) nilA))))) B4_law) (forS (nameG 9) (iterF (lstF false (consA (lstF false (consA (varF 5) (consA (varF 6) nilA))) (consA (lstF false (consA (varF 6) (consA (varF 5) nilA))) (consA (lstF false (consA (varF 5) (consA (makeF false 6 F_Grid___init__ [] (consA (lstF false nilA) nilA)) nilA))) nilA))))) B5_law))
def S_law : FS := (seqS (forS (nameG 1) (rng1F (consA (litF (.int 3)) nilA)) B1_law) (seqS (asgS (tupG 2 (consG (nameG 5) (consG (nameG 6) nilG))) (tupF (consA (makeF false 6 F_Grid___init__ [] (consA (lstF false (consA (tupF (consA (litF (.int 1)) (consA (litF (.int 2)) nilA))) nilA)) nilA)) (consA (makeF false 6 F_Grid___init__ [] (consA (lstF false (consA (tupF (consA (litF (.int 1)) (consA (litF (.int 2)) nilA))) (consA (tupF (consA (litF (.int 0)) (consA (litF (.int 1)) nilA))) nilA))) nilA)) nilA)))) (seqS (ifS (op2F (eqX true) (lcF false [4] (nameG 4) (iterF (lstF false (consA (litF .non) (consA (litF (.int 3)) (consA (lstF false (consA (tupF (consA (litF (.int 1)) (consA (litF (.int 2)) nilA))) nilA)) (consA (litF (.str "a")) (consA (tupF (consA (litF (.int 1)) (consA (litF (.int 2)) nilA))) nilA))))))) T2_law E3_law) (lstF false nilA)) (retS (litF (.bl false))) skipS) (seqS (forS (nameG 7) (rng1F (consA (litF (.int 2)) nilA)) B6_law) (seqS (ifS (op2F (eqX true) (callF false F__law_caught [] (consA (litF (.int 1)) (consA (makeF false 6 F_Grid___init__ [] (consA (lstF false (consA (tupF (consA (litF (.int 1)) (consA (litF (.int 24)) nilA))) nilA)) nilA)) (consA (makeF false 6 F_Grid___init__ [] (consA (lstF false (consA (tupF (consA (litF (.int 0)) (consA (litF (.int 25)) nilA))) nilA)) nilA)) nilA)))) (lstF false (consA (lstF false (consA (litF (.bl false)) (consA (litF (.bl false)) (consA (litF (.bl true)) nilA)))) (consA (litF (.int 601)) nilA)))) (retS (litF (.bl false))) skipS) (retS (op2F (eqX false) (methF false 6 "limits" F_Grid_limits [] (callF false F_meeting [] (consA (makeF false 6 F_Grid___init__ [] (consA (lstF false (consA (tupF (consA (litF (.int 0)) (consA (litF (.int 24)) nilA))) nilA)) nilA)) (consA (makeF false 6 F_Grid___init__ [] (consA (lstF false (consA (tupF (consA (litF (.int 0)) (consA (litF (.int 25)) nilA))) nilA)) nilA)) nilA))) nilA) (lstF false (consA (tupF (consA (litF (.int 0)) (consA (litF (.int 600)) nilA))) nilA)))))))))
def F_law : Fn := bodyF 9 S_law
theorem sc_law : FnScope N_law P_law (defScope (top 49)) := ⟨rfl, rfl, rfl, by decide +kernel, rfl, by decide +kernel, by decide +kernel⟩
theorem b_law (B : Tb P K mg ct) (hD__law_generator : Def (tx K ct) P w K mg base 1 "_law_generator" ["_law_script", "_law_index"] [] F__law_generator) (hD__law_limits : Def (tx K ct) P w K mg base 3 "_law_limits" ["_law_generator_here", "_law_many_here", "_law_least_here", "_law_most"] [] F__law_limits) (hD__law_random : Def (tx K ct) P w K mg base 2 "_law_random" ["_law_generator_here", "_law_bound"] [] F__law_random) (hD__law_many : Def (tx K ct) P w K mg base 1 "_law_many" ["_law_limits_here"] [] F__law_many) (hD__law_other : Def (tx K ct) P w K mg base 4 "_law_other" ["_law_generator_here", "_law_limits_here"] [] F__law_other) (hD__law_pair_good : Def (tx K ct) P w K mg base 8 "_law_pair_good" ["_law_generator_here", "_law_one", "_law_other_here"] [] F__law_pair_good) (hM_Grid___init__ : DefM (tx K ct) P w K mg base 4 "Grid" 6 ["self", "limits"] [] F_Grid___init__) (hE_Grid___eq__ : TxEq (tx K ct) P w K mg base 1 6 F_Grid___eq__) (hD__law_caught : Def (tx K ct) P w K mg base 7 "_law_caught" ["_law_which", "_law_one", "_law_other_here"] [] F__law_caught) (hO_Grid_limits : DefO (tx K ct) P w K mg base 1 6 "limits" ["self"] [] F_Grid_limits) (hD_meeting : Def (tx K ct) P w K mg base 6 "meeting" ["one", "other"] [] F_meeting) (q : Qx) (W : WX) (hr : RoomG 8 q.A) (tk : Takes (mkX P w K mg base N_law (defScope (top 49)) q) W) (hp : PassesOwn (model P w) q.A (enX (defScope (top 49)) q) q.xe) :
    PFSs (tx K ct) (mkX P w K mg base N_law (defScope (top 49)) q) W (defBody (top 49)) S_law :=
  have C : Cn (tx K ct) (mkX P w K mg base N_law (defScope (top 49)) q) W 8 := ⟨rfl, hr, tk, rfl, sc_law.nd⟩
  (pfs_cons (pfs_for hp C.calm (pfi_range1 B.g_range (pfa_cons pf_int pfa_nil)) (pfg_name (i := 1) C.nd) (pfs_cons (pfs_set (i := 2) C.nd (pf_callD true hD__law_generator C (pfa_cons (pf_var 0) (pfa_cons (pf_var 1) pfa_nil)) (len_cons (len_cons len_nil)))) (pfs_cons (pfs_set (i := 3) C.nd (pf_callD false hD__law_limits C (pfa_cons (pf_var 2) (pfa_cons (pf_callD false hD__law_random C (pfa_cons (pf_var 2) (pfa_cons pf_int pfa_nil)) (len_cons (len_cons len_nil))) (pfa_cons pf_int (pfa_cons pf_int pfa_nil)))) (len_cons (len_cons (len_cons (len_cons len_nil)))))) (pfs_cons (pfs_while (fun _ _ => 5) hp (pft_cmp op_gt int2B_ok int2_bl (pf_callD false hD__law_many C (pfa_cons (pf_var 3) pfa_nil) (len_cons len_nil)) pf_int (nomark _)) (pfs_one (pfs_set (i := 3) C.nd (pf_slice false C.hK (pf_var 3) (pfo_some pf_int) pfo_none)))) (pfs_cons (pfs_set (i := 4) C.nd (pf_callD false hD__law_other C (pfa_cons (pf_var 2) (pfa_cons (pf_var 3) pfa_nil)) (len_cons (len_cons len_nil)))) (pfs_one (pfs_if (pft_w (pfw_and (pft_cmp op_le int2B_ok int2_bl (pf_callD false hD__law_many C (pfa_cons (pf_var 4) pfa_nil) (len_cons len_nil)) pf_int (nomark _)) (pfw_and1 (pft_not (pft_of C.hK (pf_callD false hD__law_pair_good C (pfa_cons (pf_var 2) (pfa_cons (pf_var 3) (pfa_cons (pf_var 4) pfa_nil))) (len_cons (len_cons (len_cons len_nil))))))))) (pfs_one (pfs_ret pf_bl)) pfs_nil))))))) (pfs_cons (pfs_asg (pf_tup (pfa_cons (pf_make false hM_Grid___init__ C (pfa_cons (pf_lst false (pfa_cons (pf_tup (pfa_cons pf_int (pfa_cons pf_int pfa_nil))) pfa_nil)) pfa_nil) (len_cons len_nil)) (pfa_cons (pf_make false hM_Grid___init__ C (pfa_cons (pf_lst false (pfa_cons (pf_tup (pfa_cons pf_int (pfa_cons pf_int pfa_nil))) (pfa_cons (pf_tup (pfa_cons pf_int (pfa_cons pf_int pfa_nil))) pfa_nil))) pfa_nil) (len_cons len_nil)) pfa_nil))) (pfg_tup C.hK C.calm (pfgs_cons (pfg_name (i := 5) C.nd) (pfgs_cons (pfg_name (i := 6) C.nd) pfgs_nil)))) (pfs_cons (pfs_if (pft_cmp (o_ne C) ne_ok eqX_bl (pf_lc (own := [("_law_other_here", 4)]) false C.calm C.nd (pfi_seq C.hK (pf_lst false (pfa_cons pf_non (pfa_cons pf_int (pfa_cons (pf_lst false (pfa_cons (pf_tup (pfa_cons pf_int (pfa_cons pf_int pfa_nil))) pfa_nil)) (pfa_cons pf_str (pfa_cons (pf_tup (pfa_cons pf_int (pfa_cons pf_int pfa_nil))) pfa_nil))))))) (blkOk_by (by first | decide +kernel | rfl)) (fun _ _ _ _ _ => (pfg_name (i := 4) (Cn.blk C _ _ _ _ _).nd)) (fun _ _ _ _ _ => (pts_1 (pft_cmp op_notBl notBl_ok isBlX_bl (pf_cmp (o_eqO hE_Grid___eq__ (Cn.blk C _ _ _ _ _)) (eqO_ok hE_Grid___eq__) (pf_var 5) (pf_var 4) (nomark _)) pf_bl (nomark _)))) (fun _ _ _ _ _ => (pf_var 4))) (pf_lst false pfa_nil) (nomark _)) (pfs_one (pfs_ret pf_bl)) pfs_nil) (pfs_cons (pfs_for hp C.calm (pfi_range1 B.g_range (pfa_cons pf_int pfa_nil)) (pfg_name (i := 7) C.nd) (pfs_cons (pfs_for hp C.calm (pfi_seq C.hK (pf_lst false (pfa_cons pf_non (pfa_cons (pf_lst false (pfa_cons (pf_tup (pfa_cons pf_int (pfa_cons pf_int pfa_nil))) pfa_nil)) (pfa_cons pf_int pfa_nil))))) (pfg_name (i := 8) C.nd) (pfs_cons (pfs_if (pft_cmp (o_ne C) ne_ok eqX_bl (pf_callD false hD__law_caught C (pfa_cons (pf_var 7) (pfa_cons (pf_var 8) (pfa_cons pf_non pfa_nil))) (len_cons (len_cons (len_cons len_nil)))) (pf_lst false (pfa_cons (pf_lst false (pfa_cons pf_bl (pfa_cons pf_bl (pfa_cons pf_bl pfa_nil)))) (pfa_cons (pf_var 8) pfa_nil))) (nomark _)) (pfs_one (pfs_ret pf_bl)) pfs_nil) (pfs_one (pfs_if (pft_cmp (o_ne C) ne_ok eqX_bl (pf_callD false hD__law_caught C (pfa_cons (pf_var 7) (pfa_cons (pf_var 5) (pfa_cons (pf_var 8) pfa_nil))) (len_cons (len_cons (len_cons len_nil)))) (pf_lst false (pfa_cons (pf_lst false (pfa_cons pf_bl (pfa_cons pf_bl (pfa_cons pf_bl pfa_nil)))) (pfa_cons (pf_var 8) pfa_nil))) (nomark _)) (pfs_one (pfs_ret pf_bl)) pfs_nil)))) (pfs_one (pfs_for hp C.calm (pfi_seq C.hK (pf_lst false (pfa_cons (pf_lst false (pfa_cons (pf_var 5) (pfa_cons (pf_var 6) pfa_nil))) (pfa_cons (pf_lst false (pfa_cons (pf_var 6) (pfa_cons (pf_var 5) pfa_nil))) (pfa_cons (pf_lst false (pfa_cons (pf_var 5) (pfa_cons (pf_make false hM_Grid___init__ C (pfa_cons (pf_lst false pfa_nil) pfa_nil) (len_cons len_nil)) pfa_nil))) pfa_nil))))) (pfg_name (i := 9) C.nd) (pfs_one (pfs_if (pft_cmp (o_neO hE_Grid___eq__ C) neO_ok neOX_bl (pf_callD false hD__law_caught C (pfa_cons (pf_var 7) (pfa_cons (pf_ix C.hK (pf_var 9) pf_int) (pfa_cons (pf_ix C.hK (pf_var 9) pf_int) pfa_nil))) (len_cons (len_cons (len_cons len_nil)))) (pf_lst false (pfa_cons (pf_lst false (pfa_cons pf_bl (pfa_cons pf_bl (pfa_cons pf_bl pfa_nil)))) (pfa_cons (pf_ix C.hK (pf_var 9) pf_int) pfa_nil))) (nomark _)) (pfs_one (pfs_ret pf_bl)) pfs_nil)))))) (pfs_cons (pfs_if (pft_cmp (o_ne C) ne_ok eqX_bl (pf_callD false hD__law_caught C (pfa_cons pf_int (pfa_cons (pf_make false hM_Grid___init__ C (pfa_cons (pf_lst false (pfa_cons (pf_tup (pfa_cons pf_int (pfa_cons pf_int pfa_nil))) pfa_nil)) pfa_nil) (len_cons len_nil)) (pfa_cons (pf_make false hM_Grid___init__ C (pfa_cons (pf_lst false (pfa_cons (pf_tup (pfa_cons pf_int (pfa_cons pf_int pfa_nil))) pfa_nil)) pfa_nil) (len_cons len_nil)) pfa_nil))) (len_cons (len_cons (len_cons len_nil)))) (pf_lst false (pfa_cons (pf_lst false (pfa_cons pf_bl (pfa_cons pf_bl (pfa_cons pf_bl pfa_nil)))) (pfa_cons pf_int pfa_nil))) (nomark _)) (pfs_one (pfs_ret pf_bl)) pfs_nil) (pfs_one (pfs_ret (pf_cmp (o_eq C) eq_ok (pf_meth0 false hO_Grid_limits C (pf_callD false hD_meeting C (pfa_cons (pf_make false hM_Grid___init__ C (pfa_cons (pf_lst false (pfa_cons (pf_tup (pfa_cons pf_int (pfa_cons pf_int pfa_nil))) pfa_nil)) pfa_nil) (len_cons len_nil)) (pfa_cons (pf_make false hM_Grid___init__ C (pfa_cons (pf_lst false (pfa_cons (pf_tup (pfa_cons pf_int (pfa_cons pf_int pfa_nil))) pfa_nil)) pfa_nil) (len_cons len_nil)) pfa_nil)) (len_cons (len_cons len_nil)))) (pf_lst false (pfa_cons (pf_tup (pfa_cons pf_int (pfa_cons pf_int pfa_nil))) pfa_nil)) (nomark _)))))))))
end
end FL

set_option Elab.async false
set_option linter.all false
set_option maxRecDepth 100000
set_option maxHeartbeats 1000000
namespace FL
open PySem PySem.Spec PyProof.Rows L2
/-! ### the generator -/
abbrev gen (a b c : Int) : O := .lst [.int a, .int b, .int c]
def GI (n : Nat) (o : O) : Prop := ∃ a b c, o = gen a b c ∧ 0 ≤ a ∧ 0 ≤ b ∧ b < 2147483647 ∧ 0 ≤ c ∧ c + 4 * (n : Int) ≤ 10 ^ 6
theorem hash_ok (x i : Int) (hx : 0 ≤ x) (hx2 : x < 2 ^ 40) (hi : 0 ≤ i) (hi2 : i < 2 ^ 40) : ∃ h, F__law_hash [.d (.int x), .d (.int i)] [] = .ok (.d (.int h)) [] ∧ 0 ≤ h ∧ h < 2147483647 := by
  suffices q : ∃ k : Int, F__law_hash [.d (.int x), .d (.int i)] [] = .ok (.d (.int (k % 2147483647))) [] by
    obtain ⟨k, q⟩ := q
    exact ⟨_, q, Int.emod_nonneg _ (by decide), Int.emod_lt_of_pos _ (by decide)⟩
  unfold F__law_hash S__law_hash bodyF
  simp (disch := first | omega | (unfold Bd; omega)) [e_mul2, e_mod]
  exact ⟨_, rfl⟩
@[simp] theorem ix_gen0 (a b c r) : ixX (.ref 0) (.d (.int 0)) (gen a b c :: r) = .ok (.d (.int a)) (gen a b c :: r) := nr rfl
@[simp] theorem ix_gen1 (a b c r) : ixX (.ref 0) (.d (.int 1)) (gen a b c :: r) = .ok (.d (.int b)) (gen a b c :: r) := nr rfl
@[simp] theorem ix_gen2 (a b c r) : ixX (.ref 0) (.d (.int 2)) (gen a b c :: r) = .ok (.d (.int c)) (gen a b c :: r) := nr rfl
@[simp] theorem e_setIx0 (fv : FE) (v a b c r ρ s) (h : fv ρ s = .ok (.d v) (gen a b c :: r)) (h0 : ρ[0]? = some (some (.ref 0))) : setIxS fv (varF 0) (litF (.int 0)) ρ s = .nx ρ (.lst [v, .int b, .int c] :: r) := by
  unfold setIxS
  rw [h]
  simp [h0]
  rfl
@[simp] theorem e_setIx2 (fv : FE) (v a b c r ρ s) (h : fv ρ s = .ok (.d v) (gen a b c :: r)) (h0 : ρ[0]? = some (some (.ref 0))) : setIxS fv (varF 0) (litF (.int 2)) ρ s = .nx ρ (.lst [.int a, .int b, v] :: r) := by
  unfold setIxS
  rw [h]
  simp [h0]
  rfl
theorem turn_ok {bd d a b c : Int} {x : Xv} (h0 : 0 ≤ d) (h1 : d < 10000000000000000000000000000000000000000) (hb : 0 ≤ b) (hb2 : b < 2147483647) (hc : 0 ≤ c) (hc2 : c < 10 ^ 6) :
    ∃ h, B0__law_random [some (.ref 0), some (.d (.int bd)), some (.d (.int d)), some x] [gen a b c] = .nx [some (.ref 0), some (.d (.int bd)), some (.d (.int (d * 2147483587 + h))), some x] [gen a b (c + 1)] ∧ 0 ≤ h ∧ h < 2147483647 := by
  obtain ⟨h, e1, e2, e3⟩ := hash_ok b (c + 1) hb (by omega) (by omega) (by omega)
  refine ⟨h, ?_, e2, e3⟩
  unfold B0__law_random
  rw [e_seq, e_setIx2 (v := .int (c + 1)) (a := a) (b := b) (c := c) (r := [])]
  · have q : runC false F__law_hash [.d (.int b), .d (.int (c + 1))] [gen a b (c + 1)] = .ok (.d (.int h)) [gen a b (c + 1)] := run0_d e1 rfl
    simp (disch := first | omega | (unfold Bd; omega)) [e_mul2]
    show Res.bindS (Res.bind (runC false F__law_hash [.d (.int b), .d (.int (c + 1))] [gen a b (c + 1)]) _) _ _ = _
    rw [q]
    rfl
  · simp
  · rfl
def Mb : Nat → Int
  | 0 => 2
  | 1 => 10000000000000
  | 2 => 100000000000000000000000
  | 3 => 1000000000000000000000000000000000
  | _ => 10000000000000000000000000000000000000000000
theorem random_step {bd : Int} {t n : Nat} {b c : Int} (ht : t ≤ 4) (h1 : 0 ≤ b) (h2 : b < 2147483647) (h3 : 0 ≤ c) (h4 : c + 4 * (n + 1) ≤ 10 ^ 6) (j : Nat) (x : D) (ρ : Env') (s : Sto) (hj : (rngD 0 t)[j]? = some x)
    (hI : ∃ (d c' : Int) (x : Option Xv), ρ = [some (.ref 0), some (.d (.int bd)), some (.d (.int d)), x] ∧ s = [gen 0 b c'] ∧ 0 ≤ d ∧ d < Mb (0 + j) ∧ c' = c + (0 + j : Nat)) :
    ∃ r r' s', nameG 3 (.d x) ρ = some r ∧ B0__law_random r s = .nx r' s' ∧ (∃ (d c' : Int) (x : Option Xv), r' = [some (.ref 0), some (.d (.int bd)), some (.d (.int d)), x] ∧ s' = [gen 0 b c'] ∧ 0 ≤ d ∧ d < Mb (0 + j + 1) ∧ c' = c + (0 + j + 1 : Nat)) := by
  obtain ⟨d, c', x0, rfl, rfl, d0, d1, rfl⟩ := hI
  have hjt := (rng_at hj).1
  have hj4 : j = 0 ∨ j = 1 ∨ j = 2 ∨ j = 3 := by omega
  have d2 : d < 10000000000000000000000000000000000000000 := by
    rcases hj4 with e | e | e | e <;> subst e <;> (unfold Mb at d1; simp at d1; omega)
  obtain ⟨h, e1, e2, e3⟩ := turn_ok (bd := bd) (d := d) (a := 0) (b := b) (c := c + ((0 + j : Nat) : Int)) (x := .d x) d0 d2 h1 h2 (by omega) (by omega)
  refine ⟨_, _, _, rfl, e1, d * 2147483587 + h, _, _, rfl, rfl, by omega, ?_, by push_cast; omega⟩
  rcases hj4 with e | e | e | e <;> subst e <;> (unfold Mb at d1 ⊢; simp at d1 ⊢; omega)
theorem random_a {bd : Int} {t : Nat} {a b c : Int} (hb : BdOk bd t) (h0 : 0 < a) : F__law_random [.ref 0, .d (.int bd)] [gen a b c] = .ok (.d (.int (a % bd))) [gen (a / bd) b c] := by
  have hp := hb.pos
  unfold F__law_random S__law_random bodyF
  simp [h0, e_mod _ _ _ hp]
  rw [e_setIx0 (v := .int (a / bd)) (a := a) (b := b) (c := c) (r := [])]
  · simp
    trace_state
  · simp [e_div _ _ _ hp hb.lg]
  · simp
theorem random_b {bd d z : Int} {t : Nat} {b c c' : Int} {x : Option Xv} (hz : ¬ 0 < z) (hb : BdOk bd t) (e1 : forF (nameG 3) B0__law_random (rngD 0 t) [some (.ref 0), some (.d (.int bd)), some (.d (.int 0)), none] [gen z b c] = .nx [some (.ref 0), some (.d (.int bd)), some (.d (.int d)), x] [gen z b c']) :
    F__law_random [.ref 0, .d (.int bd)] [gen z b c] = .ok (.d (.int (d % bd))) [gen z b c'] := by
  have hp := hb.pos
  have tn := hb.tn
  have le := hb.le
  unfold F__law_random S__law_random
  rw [e_body]
  simp [hz, e_mod _ _ _ hp, e_div _ _ _ (show (0 : Int) < 30 by decide) (by decide +kernel), tn]
  rw [e_rng _ _ (by omega) (by omega)]
  simp
  rw [e1]
  simp [e_mod _ _ _ hp]
theorem random_ok {n : Nat} {o : O} {bd : Int} {t : Nat} (hg : GI (n + 1) o) (hb : BdOk bd t) : ∃ r o', F__law_random [.ref 0, .d (.int bd)] [o] = .ok (.d (.int r)) [o'] ∧ 0 ≤ r ∧ r < bd ∧ GI n o' := by
  obtain ⟨a, b, c, rfl, ha, h1, h2, h3, h4⟩ := hg
  have hp := hb.pos
  have le := hb.le
  by_cases h0 : 0 < a
  · exact ⟨a % bd, gen (a / bd) b c, random_a hb h0, Int.emod_nonneg _ (by omega), Int.emod_lt_of_pos _ hp, a / bd, b, c, rfl, Int.ediv_nonneg ha (by omega), h1, h2, h3, by omega⟩
  · have ha0 : a = 0 := by omega
    subst ha0
    obtain ⟨ρ', s', e1, d, c', x, rfl, rfl, d0, d1, rfl⟩ := forF_inv (asg := nameG 3) (b := B0__law_random) (fun i ρ s => ∃ (d c' : Int) (x : Option Xv), ρ = [some (.ref 0), some (.d (.int bd)), some (.d (.int d)), x] ∧ s = [gen 0 b c'] ∧ 0 ≤ d ∧ d < Mb i ∧ c' = c + i) (rngD 0 t) 0
      (ρ := [some (.ref 0), some (.d (.int bd)), some (.d (.int 0)), none]) (s := [gen 0 b c]) ⟨0, c, none, rfl, rfl, Int.le_refl 0, by decide, by simp⟩ (random_step (n := n) le h1 h2 h3 (by push_cast at h4; exact h4))
    have hl := rng_len 0 t
    exact ⟨d % bd, gen 0 b (c + ((0 + (rngD 0 t).length : Nat) : Int)), random_b (by decide) hb e1, Int.emod_nonneg _ (by omega), Int.emod_lt_of_pos _ hp, 0, b, _, rfl, Int.le_refl 0, h1, h2, by omega, by rw [hl]; push_cast at h4 ⊢; omega⟩
theorem GI.le {n k : Nat} {o : O} (h : GI n o) (hk : k ≤ n) : GI k o := by
  obtain ⟨a, b, c, e, h1, h2, h3, h4, h5⟩ := h
  exact ⟨a, b, c, e, h1, h2, h3, h4, by omega⟩
theorem runG {m : Bool} {F : Fn} {xs : List Xv} {rest : Sto} {v : D} {n n' : Nat} {o o' : O} (g : GI n o) (g' : GI n' o') (h : F (.ref 0 :: zero xs) [o] = .ok (.d v) [o']) (h0 : refsOf xs = []) : runC m F (.ref 0 :: xs) (o :: rest) = .ok (.d v) (o' :: rest) := by
  obtain ⟨a, b, c, rfl, _⟩ := g
  obtain ⟨a', b', c', rfl, _⟩ := g'
  exact run1_d h h0
theorem rand_r {n : Nat} {o : O} {bd : Int} {t : Nat} (hg : GI (n + 1) o) (hb : BdOk bd t) : ∃ r o', (∀ m rest, runC m F__law_random [.ref 0, .d (.int bd)] (o :: rest) = .ok (.d (.int r)) (o' :: rest)) ∧ 0 ≤ r ∧ r < bd ∧ GI n o' := by
  obtain ⟨r, o', e, h1, h2, h3⟩ := random_ok hg hb
  exact ⟨r, o', fun m rest => runG hg h3 e rfl, h1, h2, h3⟩
theorem gen_ok (ns : List Int) {i : Nat} (hi : i < 3) : ∃ o, F__law_generator [.d (.scr ns), .d (.int (i : Int))] [] = .ok (.ref 0) [o] ∧ GI 44 o := by
  obtain ⟨B, hB, pB⟩ := pow600
  suffices h : ∀ seed : Int, (ifF (op2F (ltX) (varF 1) (callBF lenX (consA (varF 0) nilA))) (op2F ixX (varF 0) (varF 1)) (op2F modX (callBF sumX (consA (slF false (varF 0) (litF .non) (intF (litF (.int 1)))) nilA)) (litF (.int 1000003)))) [some (.d (.scr ns)), some (.d (.int (i : Int))), none] [] = .ok (.d (.int seed)) [] → ∃ o, F__law_generator [.d (.scr ns), .d (.int (i : Int))] [] = .ok (.ref 0) [o] ∧ GI 44 o by
    by_cases h0 : i < ns.length
    · refine h ns[i] ?_
      have q := ix_scr (s := []) (List.getElem?_eq_getElem h0)
      simp [len_scr, show (i : Int) < ns.length by omega, q]
    · refine h ((cutD ns none (some 1)).sum % 1000003) ?_
      have q := sum_ns (cutD ns none (some 1)) []
      simp [len_scr, show ¬ (i : Int) < ns.length by omega, sl_scr]
      rw [e_mod _ _ _ (by decide)]
  intro seed hs
  have hm : ∀ x : Int, 0 ≤ (if 0 > x then (0 : Int) else x) := fun x => by split <;> omega
  refine ⟨gen ((if 0 > seed - 1000000000000000000 then 0 else seed - 1000000000000000000) % B) (seed % 2147483647) (1000 * i), ?_, _, _, _, rfl, Int.emod_nonneg _ (by omega), Int.emod_nonneg _ (by decide), Int.emod_lt_of_pos _ (by decide), by omega, by omega⟩
  unfold F__law_generator S__law_generator
  rw [e_body]
  show runOut (seqS _ _ [some (.d (.scr ns)), some (.d (.int (i : Int))), none] []) = _
  rw [seq_go (r := [some (.d (.scr ns)), some (.d (.int (i : Int))), some (.d (.int seed))]) (s2 := []) (by rw [e_set, hs]; simp) rfl]
  simp [pow18, pow60, pB, e_mod _ _ _ hB, e_mod _ _ _ (show (0 : Int) < 2147483647 by decide)]
  rw [e_mul2 _ _ _ _ (by unfold Bd; omega) (by unfold Bd; omega)]
  simp
theorem gen_r (ns : List Int) {i : Nat} (hi : i < 3) (s : Sto) : ∃ o, runC true F__law_generator [.d (.scr ns), .d (.int (i : Int))] s = .ok (.ref s.length) (s ++ [o]) ∧ GI 44 o := by
  obtain ⟨o, e, g⟩ := gen_ok ns hi
  refine ⟨o, ?_, g⟩
  obtain ⟨a, b, c, rfl, _⟩ := g
  unfold runC
  show run0 true F__law_generator [.d (.scr ns), .d (.int (i : Int))] s = _
  unfold run0
  rw [e]
  rfl
end FL

set_option Elab.async false
set_option linter.all false
set_option maxRecDepth 100000
set_option maxHeartbeats 1000000
namespace FL
open PySem PySem.Spec PyProof.Rows L2
abbrev Li := List (Int × Int)
abbrev lD (l : Li) : List D := l.map fun p => .tup [.int p.1, .int p.2]
abbrev gO (l : Li) : D := .obj 6 ["_limits"] [.tup (lD l)]
def Le1 (p : Int × Int) : Prop := 0 ≤ p.1 ∧ 1 ≤ p.2 ∧ p.1 ≤ 2000 ∧ p.2 ≤ 2000
structure Lm (l : Li) : Prop where
  len : l.length ≤ 3
  rg : ∀ p ∈ l, Le1 p
@[simp] theorem is_int_i (i s) : isEX nC subB ownB exB [.d (.int i), .d (.ty "int")] s = .ok (.d (.bl true)) s := nr rfl
@[simp] theorem is_int_b (i s) : isEX nC subB ownB exB [.d (.int i), .d (.ty "bool")] s = .ok (.d (.bl false)) s := nr rfl
@[simp] theorem is_bl_b (i s) : isEX nC subB ownB exB [.d (.bl i), .d (.ty "bool")] s = .ok (.d (.bl true)) s := nr rfl
@[simp] theorem is_tup_t (xs s) : isEX nC subB ownB exB [.d (.tup xs), .d (.ty "tuple")] s = .ok (.d (.bl true)) s := nr rfl
@[simp] theorem is_lst_l (xs s) : isEX nC subB ownB exB [.d (.lst xs), .d (.ty "list")] s = .ok (.d (.bl true)) s := nr rfl
@[simp] theorem is_obj_g (ns vs s) : isEX nC subB ownB exB [.d (.obj 6 ns vs), .d (.cls 6)] s = .ok (.d (.bl true)) s := nr rfl
@[simp] theorem is_non_g (s) : isEX nC subB ownB exB [.d .non, .d (.cls 6)] s = .ok (.d (.bl false)) s := nr rfl
@[simp] theorem own6 : ownB 6 = true := nr rfl
theorem whole_v (n : Int) : F_is_whole [.d (.int n)] [] = .ok (.d (.bl true)) [] := rfl
theorem between_v (n a : Int) : F_is_between [.d (.int n), .d (.int a), .d .non] [] = .ok (.d (.bl (decide (a ≤ n)))) [] := by
  have q : runC false F_is_whole [.d (.int n)] [] = .ok (.d (.bl true)) [] := run0_d (whole_v n) rfl
  unfold F_is_between S_is_between
  rw [e_body]
  simp [q]
  by_cases h : a ≤ n <;> simp [h]
theorem limit_v (t p : Int) (h1 : 0 ≤ t) (h2 : 1 ≤ p) : F_is_limit [.d (.tup [.int t, .int p])] [] = .ok (.d (.bl true)) [] := by
  have q (n a : Int) : runC false F_is_between [.d (.int n), .d (.int a), .d .non] [] = .ok (.d (.bl (decide (a ≤ n)))) [] := run0_d (between_v n a) rfl
  have i1 : ixX (.d (.tup [.int t, .int p])) (.d (.int 1)) [] = .ok (.d (.int p)) [] := ix_t (j := 1) rfl
  unfold F_is_limit S_is_limit
  rw [e_body]
  simp [q, h1, h2, i1]
/-! ### how many classes -/
def cntA (a : Int) : Li → Int
  | [] => a
  | p :: l => cntA (a * (p.1 + p.2)) l
def cnt (l : Li) : Int := cntA 1 l
theorem bd_pow {a : Int} {k : Nat} (h0 : 0 ≤ a) (h : a ≤ 5000 ^ k) (hk : k ≤ 3) : Bd a := by
  have : a ≤ 5000 ^ 3 := by
    rcases (show k = 0 ∨ k = 1 ∨ k = 2 ∨ k = 3 by omega) with e | e | e | e <;> subst e <;> omega
  unfold Bd
  omega
theorem step_le {a x : Int} {k : Nat} (h0 : 0 ≤ a) (h : a ≤ 5000 ^ k) (hk : k + 1 ≤ 3) (h1 : 0 ≤ x) (h2 : x ≤ 4000) : 0 ≤ a * x ∧ a * x ≤ 5000 ^ (k + 1) := by
  refine ⟨Int.mul_nonneg h0 h1, ?_⟩
  rw [Int.pow_succ]
  exact Int.mul_le_mul h (by omega) h1 (by rcases (show k = 0 ∨ k = 1 ∨ k = 2 by omega) with e | e | e <;> subst e <;> decide)
theorem cc_loop : ∀ (l : Li) (a : Int) (o y z), l.length ≤ 3 → (∀ p ∈ l, Le1 p) → 0 ≤ a → a ≤ 5000 ^ (3 - l.length) →
    ∃ y' z', forF (tupG 2 (consG (nameG 2) (consG (nameG 3) nilG))) B0_class_count (lD l) [some o, some (.d (.int a)), y, z] [] = .nx [some o, some (.d (.int (cntA a l))), y', z'] []
  | [], a, o, y, z, _, _, _, _ => ⟨y, z, rfl⟩
  | p :: l, a, o, y, z, hl, hp, h0, ha => by
    obtain ⟨p1, p2, p3, p4⟩ := hp p (List.mem_cons_self ..)
    have hl' : l.length + 1 ≤ 3 := hl
    have e3 : 3 - l.length = (3 - (p :: l).length) + 1 := by simp; omega
    obtain ⟨q1, q2⟩ := step_le (x := p.1 + p.2) h0 ha (by rw [List.length_cons]; omega) (by omega) (by omega)
    obtain ⟨y', z', e⟩ := cc_loop l (a * (p.1 + p.2)) o (some (.d (.int p.1))) (some (.d (.int p.2))) (by omega) (fun x hx => hp x (List.mem_cons_of_mem _ hx)) q1 (by rw [e3]; exact q2)
    refine ⟨y', z', ?_⟩
    show forF _ _ (.tup [.int p.1, .int p.2] :: lD l) _ _ = _
    rw [forF_cons (e_pair _ _ _ _ _) (r2 := [some o, some (.d (.int (a * (p.1 + p.2)))), some (.d (.int p.1)), some (.d (.int p.2))]) (s2 := [])]
    · exact e
    · unfold B0_class_count
      simp
      rw [e_mul2 _ _ _ _ (bd_pow h0 ha (by omega)) (by unfold Bd; omega)]
      simp
theorem count_v {l : Li} (h : Lm l) : F_class_count [.d (.lst (lD l))] [] = .ok (.d (.int (cnt l))) [] := by
  have h1 : (1 : Int) ≤ 5000 ^ (3 - l.length) := by
    rcases (show 3 - l.length = 0 ∨ 3 - l.length = 1 ∨ 3 - l.length = 2 ∨ 3 - l.length = 3 by omega) with e | e | e | e <;> rw [e] <;> decide
  obtain ⟨y, z, e⟩ := cc_loop l 1 (.d (.lst (lD l))) none none h.len h.rg (by decide) h1
  unfold F_class_count S_class_count
  rw [e_body]
  unfold iterF
  simp at e ⊢
  rw [e]
  simp
  rfl
/-! ### the least point of a class -/
def leastM (p : Int × Int) (c : Int) : Int := if c < p.1 then c else p.1 + (c - p.1) % p.2
def redM (l : Li) (pt : List Int) : List Int := List.zipWith leastM l pt
theorem least_v (t p c : Int) (hp : 1 ≤ p) : F_least_count [.d (.tup [.int t, .int p]), .d (.int c)] [] = .ok (.d (.int (leastM (t, p) c))) [] := by
  unfold F_least_count S_least_count
  rw [e_body]
  unfold leastM
  by_cases h : c < t
  · simp [h]
  · simp [h, e_mod _ _ _ (show 0 < p by omega)]
theorem red_c : ∀ (l : Li) (pt : List Int) (p q : Xv), l.length = pt.length → (∀ e ∈ l, Le1 e) → compN (tupG 2 (consG (nameG 2) (consG (nameG 3) nilG))) yesF E0_reduced [some p, some q, none, none] (zipD (lD l) (nsD pt)) [] = some (nsD (redM l pt), [])
  | [], [], _, _, _, _ => rfl
  | [], _ :: _, _, _, h, _ => by cases h
  | _ :: _, [], _, _, h, _ => by cases h
  | x :: a, y :: b, p, q, h, hl => by
    have e := red_c a b p q (by simpa using h) (fun z hz => hl z (List.mem_cons_of_mem _ hz))
    have q1 : runC false F_least_count [.d (.tup [.int x.1, .int x.2]), .d (.int y)] [] = .ok (.d (.int (leastM x y))) [] := run0_d (least_v x.1 x.2 y (hl x (List.mem_cons_self ..)).2.1) rfl
    show compN _ _ _ _ (.tup [.tup [.int x.1, .int x.2], .int y] :: zipD (lD a) (nsD b)) _ = _
    unfold compN
    simp
    unfold E0_reduced at e ⊢
    simp [e, q1]
    rfl
theorem reduced_v {l : Li} {pt : List Int} (h : Lm l) (hl : l.length = pt.length) : F_reduced [.d (.lst (lD l)), .d (.lst (nsD pt))] [] = .ok (.d (.lst (nsD (redM l pt)))) [] := by
  have e := red_c l pt (.d (.lst (lD l))) (.d (.lst (nsD pt))) hl h.rg
  have hz : (zipD (lD l) (nsD pt)).length ≤ 1000000 := by rw [zipD_len (by simpa using hl), List.length_map]; have := h.len; omega
  unfold F_reduced S_reduced
  rw [e_body]
  simp [hl, hz, e]
/-! ### the meeting of limits -/
def mx (i j : Int) : Int := if j > i then j else i
def lcmI (i j : Int) : Int := ((i.natAbs.lcm j.natAbs : Nat) : Int)
def meetM (a b : Li) : Li := List.zipWith (fun p q => (mx p.1 q.1, lcmI p.2 q.2)) a b
theorem ml_loop : ∀ (a b acc : Li) (p q : Xv) (y z), a.length = b.length → acc.length + a.length ≤ 1000 → (∀ e ∈ a, Le1 e) → (∀ e ∈ b, Le1 e) →
    ∃ y' z', forF (tupG 2 (consG (nameG 3) (consG (nameG 4) nilG))) B0_meeting_limits (zipD (lD a) (lD b)) [some p, some q, some (.ref 0), y, z] [.lst (lD acc)] = .nx [some p, some q, some (.ref 0), y', z'] [.lst (lD (acc ++ meetM a b))]
  | [], [], acc, p, q, y, z, _, _, _, _ => ⟨y, z, by simp [meetM]; rfl⟩
  | [], _ :: _, _, _, _, _, _, h, _, _, _ => by cases h
  | _ :: _, [], _, _, _, _, _, h, _, _, _ => by cases h
  | x :: a, u :: b, acc, p, q, y, z, h, hs, ha, hb => by
    obtain ⟨p1, p2, p3, p4⟩ := ha x (List.mem_cons_self ..)
    obtain ⟨q1, q2, q3, q4⟩ := hb u (List.mem_cons_self ..)
    obtain ⟨y', z', e⟩ := ml_loop a b (acc ++ [(mx x.1 u.1, lcmI x.2 u.2)]) p q (some (.d (.tup [.int x.1, .int x.2]))) (some (.d (.tup [.int u.1, .int u.2]))) (by simpa using h) (by simp at hs ⊢; omega) (fun e he => ha e (List.mem_cons_of_mem _ he)) (fun e he => hb e (List.mem_cons_of_mem _ he))
    have i1 (s) : ixX (.d (.tup [.int x.1, .int x.2])) (.d (.int 1)) s = .ok (.d (.int x.2)) s := ix_t (j := 1) rfl
    have i2 (s) : ixX (.d (.tup [.int u.1, .int u.2])) (.d (.int 1)) s = .ok (.d (.int u.2)) s := ix_t (j := 1) rfl
    refine ⟨y', z', ?_⟩
    show forF _ _ (.tup [.tup [.int x.1, .int x.2], .tup [.int u.1, .int u.2]] :: zipD (lD a) (lD b)) _ _ = _
    rw [forF_cons (e_pair _ _ _ _ _) (r2 := [some p, some q, some (.ref 0), some (.d (.tup [.int x.1, .int x.2])), some (.d (.tup [.int u.1, .int u.2]))]) (s2 := [.lst (lD (acc ++ [(mx x.1 u.1, lcmI x.2 u.2)]))])]
    · rw [e]
      simp [meetM]
    · unfold B0_meeting_limits
      rw [e_expr, e_app (i := 0) (xs := lD acc) (y := .tup [.int (mx x.1 u.1), .int (lcmI x.2 u.2)])]
      · simp
      · simp
      · simp [i1, i2, show x.2.natAbs < 2 ^ 64 by omega, show u.2.natAbs < 2 ^ 64 by omega]
        exact ⟨rfl, rfl⟩
      · rfl
      · simp at hs ⊢; omega
theorem meetl_v {a b : Li} (ha : Lm a) (hb : Lm b) (h : a.length = b.length) : F_meeting_limits [.d (.lst (lD a)), .d (.lst (lD b))] [] = .ok (.ref 0) [.lst (lD (meetM a b))] := by
  obtain ⟨y, z, e⟩ := ml_loop a b [] (.d (.lst (lD a))) (.d (.lst (lD b))) none none h (by have := ha.len; simp; omega) ha.rg hb.rg
  unfold F_meeting_limits S_meeting_limits
  rw [e_body]
  simp [h]
  simp at e
  rw [e]
  simp
end FL

set_option Elab.async false
set_option linter.all false
set_option maxRecDepth 100000
set_option maxHeartbeats 1000000
namespace FL
open PySem PySem.Spec PyProof.Rows L2
@[simp] theorem sm1 : (Str.ofString "many" = Str.ofString "_limits") = False := eq_false (by decide)
@[simp] theorem sm2 : (Str.ofString "limits" = Str.ofString "_limits") = False := eq_false (by decide)
theorem e_setFld {n : Str} {fo fv : FE} {ρ : Env'} {s : Sto} {d : D} {i c : Nat} {ns : List Str} {vs : List D} (h : fv ρ s = .ok (.d d) s) (h2 : fo ρ s = .ok (.ref i) s) (h3 : s[i]? = some (.ins c ns vs)) (h4 : ownB c = true ∧ ns.length < 1000) : setFldS ownB n fo fv ρ s = .nx ρ (s.set i (.ins c (putN ns vs n d).1 (putN ns vs n d).2)) := by
  unfold setFldS
  rw [h]
  simp
  rw [h2]
  simp [h3, h4]
/-! ### the class -/
theorem lim_c (l : Li) (h : ∀ e ∈ l, Le1 e) (o q : Xv) (s) : compN (nameG 2) T0_Grid___init__ E1_Grid___init__ [some o, some q, none] (lD l) s = some ([], s) :=
  compN_none (lD l) fun x hx => by
    obtain ⟨p, hp, rfl⟩ := List.mem_map.mp hx
    have q : runC false F_is_limit [.d (.tup [.int p.1, .int p.2])] s = .ok (.d (.bl true)) s := run0_d (limit_v p.1 p.2 (h p hp).1 (h p hp).2.1) rfl
    refine ⟨_, rfl, ?_⟩
    unfold T0_Grid___init__
    simp [q]
theorem init_v {l : Li} (h : Lm l) (hc : cnt l ≤ 600) : F_Grid___init__ [.ref 0, .d (.lst (lD l))] [.ins 6 [] []] = .ok (.d .non) [.ins 6 ["_limits"] [.tup (lD l)]] := by
  have e := lim_c l h.rg (.ref 0) (.d (.lst (lD l))) [.ins 6 [] []]
  have q : ∀ s, runC false F_class_count [.d (.lst (lD l))] s = .ok (.d (.int (cnt l))) s := fun s => run0_d (count_v h) rfl
  have h3 : ¬ (3 : Int) < l.length := by have := h.len; omega
  have h4 : l.length ≤ 1000000 := by have := h.len; omega
  unfold F_Grid___init__ S_Grid___init__
  rw [e_body]
  unfold iterF
  simp [h3, h4, e, q, eq_nn, show ¬ (600 : Int) < cnt l by omega]
  rw [e_setFld (d := .tup (lD l)) (i := 0) (c := 6) (ns := []) (vs := [])]
  · simp [putN]
  · simp
  · simp
  · rfl
  · exact ⟨rfl, by decide⟩
theorem init_x {l : Li} (h : Lm l) (hc : 600 < cnt l) : F_Grid___init__ [.ref 0, .d (.lst (lD l))] [.ins 6 [] []] = .exc (.exc 5 ["value"] [.int (cnt l)]) [.ins 6 [] []] := by
  have e := lim_c l h.rg (.ref 0) (.d (.lst (lD l))) [.ins 6 [] []]
  have q : ∀ s, runC false F_class_count [.d (.lst (lD l))] s = .ok (.d (.int (cnt l))) s := fun s => run0_d (count_v h) rfl
  have h3 : ¬ (3 : Int) < l.length := by have := h.len; omega
  have h4 : l.length ≤ 1000000 := by have := h.len; omega
  unfold F_Grid___init__ S_Grid___init__
  rw [e_body]
  unfold iterF
  simp [h3, h4, e, q, eq_nn, hc]
theorem make_v {l : Li} (h : Lm l) (hc : cnt l ≤ 600) (s) : runM false 6 F_Grid___init__ [.d (.lst (lD l))] s = .ok (.d (gO l)) s := runM_d (init_v h hc) rfl
theorem make_x {l : Li} (h : Lm l) (hc : 600 < cnt l) (s) : runM false 6 F_Grid___init__ [.d (.lst (lD l))] s = .exc (.exc 5 ["value"] [.int (cnt l)]) s := runM_x (init_x h hc) rfl
@[simp] theorem many_v (l : Li) (s) : runC false F_Grid_many [.d (gO l)] s = .ok (.d (.int l.length)) s := run0_d (s2 := []) (by
  unfold F_Grid_many S_Grid_many
  rw [e_body]
  simp) rfl
@[simp] theorem limits_v (l : Li) (s) : runC false F_Grid_limits [.d (gO l)] s = .ok (.d (.lst (lD l))) s := run0_d (s2 := []) (by
  unfold F_Grid_limits S_Grid_limits
  rw [e_body]
  simp) rfl
theorem intT_lD : ∀ (l : Li), intTs (lD l) = true
  | [] => rfl
  | p :: l => by
    show (intT (.tup [.int p.1, .int p.2]) && intTs (lD l)) = true
    rw [intT_lD l]
    rfl
theorem flat_lD {n : Nat} (l : Li) : flatS (n + 2) (.lst (lD l)) = true ∧ flatS (n + 2) (.tup (lD l)) = true := by
  have e : (lD l).all (flatS (n + 1)) = true := by
    rw [List.all_eq_true]
    intro x hx
    obtain ⟨p, _, rfl⟩ := List.mem_map.mp hx
    cases n <;> rfl
  unfold flatS
  exact ⟨e, e⟩
theorem beq_lD : ∀ (a b : Li), beqDs (lD a) (lD b) = decide (a = b)
  | [], [] => rfl
  | [], _ :: _ => rfl
  | _ :: _, [] => rfl
  | p :: a, q :: b => by
    show (beqD (.tup [.int p.1, .int p.2]) (.tup [.int q.1, .int q.2]) && beqDs (lD a) (lD b)) = _
    rw [beq_lD a b]
    simp only [beqD, beqDs]
    obtain ⟨p1, p2⟩ := p
    obtain ⟨q1, q2⟩ := q
    by_cases h1 : p1 = q1 <;> by_cases h2 : p2 = q2 <;> by_cases h3 : a = b <;> simp [h1, h2, h3]
theorem eq_lD (m : Bool) (a b : Li) (s) : eqX m (.d (.lst (lD a))) (.d (.lst (lD b))) s = .ok (.d (.bl (if m then !decide (a = b) else decide (a = b)))) s := by
  rw [eqX_t m s (by unfold intT; exact intT_lD a) (by unfold intT; exact intT_lD b) (flat_lD a).1 (flat_lD b).1]
  simp only [beqD, beq_lD]
theorem eq_lT (m : Bool) (a b : Li) (s) : eqX m (.d (.tup (lD a))) (.d (.tup (lD b))) s = .ok (.d (.bl (if m then !decide (a = b) else decide (a = b)))) s := by
  rw [eqX_t m s (by unfold intT; exact intT_lD a) (by unfold intT; exact intT_lD b) (flat_lD a).2 (flat_lD b).2]
  simp only [beqD, beq_lD]
theorem geq_v (a b : Li) (s) : runC false F_Grid___eq__ [.d (gO a), .d (gO b)] s = .ok (.d (.bl (decide (a = b)))) s := run0_d (s2 := []) (by
  unfold F_Grid___eq__ S_Grid___eq__
  rw [e_body]
  simp [eq_lT]) rfl
theorem eqO_v (a b : Li) (s) : eqOX 6 F_Grid___eq__ (.d (gO a)) (.d (gO b)) s = .ok (.d (.bl (decide (a = b)))) s := by
  show (if 6 = 6 ∧ okT 6 (.d (gO b)) s = true then ansB (runC false F_Grid___eq__ [.d (gO a), .d (gO b)] s) else .stuck) = _
  rw [if_pos ⟨rfl, rfl⟩, geq_v]
  rfl
/-! ### what is handed in -/
@[simp] theorem chg_v (l : Li) (s) : runC false F_check_grid [.d (gO l)] s = .ok (.d .non) s := run0_d (s2 := []) (by
  unfold F_check_grid S_check_grid
  rw [e_body]
  simp) rfl
theorem ch2_v {a b : Li} (h : a.length = b.length) (s) : runC false F_check_two_grids [.d (gO a), .d (gO b)] s = .ok (.d .non) s := run0_d (s2 := []) (by
  unfold F_check_two_grids S_check_two_grids
  rw [e_body]
  simp [h]) rfl
theorem counts_c (xs : List Int) (h : ∀ x ∈ xs, 0 ≤ x) (o : D) : compN (nameG 1) T0_are_counts E1_are_counts [some (.d o), none] (nsD xs) [] = some ([], []) := by
  refine compN_none (nsD xs) fun x hx => ?_
  obtain ⟨n, hn, rfl⟩ := List.mem_map.mp hx
  refine ⟨_, rfl, ?_⟩
  have q : runC false F_is_between [.d (.int n), .d (.int 0), .d .non] [] = .ok (.d (.bl (decide (0 ≤ n)))) [] := run0_d (between_v n 0) rfl
  unfold T0_are_counts
  simp [q, h n hn]
theorem counts_v (xs : List Int) (h : ∀ x ∈ xs, 0 ≤ x) (hl : xs.length ≤ 1000000) : F_are_counts [.d (.lst (nsD xs))] [] = .ok (.d (.bl true)) [] := by
  have e := counts_c xs h (.lst (nsD xs))
  unfold F_are_counts S_are_counts
  rw [e_body]
  unfold iterF
  simp [e, hl, eq_nn]
theorem chp_v {n : Int} {xs : List Int} (h : ∀ x ∈ xs, 0 ≤ x) (hl : xs.length ≤ 1000000) (hn : (xs.length : Int) = n) (s) : runC false F_check_point [.d (.int n), .d (.lst (nsD xs))] s = .ok (.d .non) s := run0_d (s2 := []) (by
  have q : runC false F_are_counts [.d (.lst (nsD xs))] [] = .ok (.d (.bl true)) [] := run0_d (counts_v xs h hl) rfl
  have q2 : runC false F_is_point [.d (.int n), .d (.lst (nsD xs))] [] = .ok (.d (.bl true)) [] := run0_d (s2 := []) (by
    unfold F_is_point S_is_point
    rw [e_body]
    simp [q, hn]) rfl
  unfold F_check_point S_check_point
  rw [e_body]
  simp [q2]) rfl
theorem classof_v {l : Li} {pt : List Int} (h : Lm l) (hl : pt.length = l.length) (h0 : ∀ x ∈ pt, 0 ≤ x) (s) : runC false F_class_of [.d (gO l), .d (.lst (nsD pt))] s = .ok (.d (.lst (nsD (redM l pt)))) s := run0_d (s2 := []) (by
  have q : ∀ s, runC false F_reduced [.d (.lst (lD l)), .d (.lst (nsD pt))] s = .ok (.d (.lst (nsD (redM l pt)))) s := fun s => run0_d (reduced_v h hl.symm) rfl
  have q2 := chp_v h0 (by have := h.len; omega) (show (pt.length : Int) = (l.length : Int) by rw [hl]) []
  unfold F_class_of S_class_of
  rw [e_body]
  simp [q, q2]) rfl
/-! ### refining -/
def okP (x y : Int × Int) : Bool := !(decide (x.1 < y.1) || decide (x.2 % y.2 ≠ 0))
def refM : Li → Li → Bool
  | x :: a, y :: b => okP x y && refM a b
  | _, _ => true
theorem lr_loop : ∀ (a b : Li) (p q : Xv) (y z), a.length = b.length → (∀ e ∈ b, Le1 e) →
    (refM a b = true → ∃ r, forF (tupG 2 (consG (nameG 2) (consG (nameG 3) nilG))) B0_limits_refine (zipD (lD a) (lD b)) [some p, some q, y, z] [] = .nx r []) ∧
    (refM a b = false → forF (tupG 2 (consG (nameG 2) (consG (nameG 3) nilG))) B0_limits_refine (zipD (lD a) (lD b)) [some p, some q, y, z] [] = .rt (.d (.bl false)) [])
  | [], [], p, q, y, z, _, _ => ⟨fun _ => ⟨_, rfl⟩, (fun h => by cases h)⟩
  | [], _ :: _, _, _, _, _, h, _ => by cases h
  | _ :: _, [], _, _, _, _, h, _ => by cases h
  | x :: a, u :: b, p, q, y, z, h, hb => by
    obtain ⟨k1, k2⟩ := lr_loop a b p q (some (.d (.tup [.int x.1, .int x.2]))) (some (.d (.tup [.int u.1, .int u.2]))) (by simpa using h) (fun e he => hb e (List.mem_cons_of_mem _ he))
    have hu := (hb u (List.mem_cons_self ..)).2.1
    have i1 (s) : ixX (.d (.tup [.int x.1, .int x.2])) (.d (.int 1)) s = .ok (.d (.int x.2)) s := ix_t (j := 1) rfl
    have i2 (s) : ixX (.d (.tup [.int u.1, .int u.2])) (.d (.int 1)) s = .ok (.d (.int u.2)) s := ix_t (j := 1) rfl
    have eb : B0_limits_refine [some p, some q, some (.d (.tup [.int x.1, .int x.2])), some (.d (.tup [.int u.1, .int u.2]))] [] = if okP x u = true then .nx [some p, some q, some (.d (.tup [.int x.1, .int x.2])), some (.d (.tup [.int u.1, .int u.2]))] [] else .rt (.d (.bl false)) [] := by
      unfold B0_limits_refine okP
      by_cases h1 : x.1 < u.1
      · simp [h1]
      · by_cases h2 : x.2 % u.2 = 0 <;> simp [h1, i1, i2, e_mod _ _ _ (show 0 < u.2 by omega), h2]
    show (refM (x :: a) (u :: b) = true → ∃ r, forF _ _ (.tup [.tup [.int x.1, .int x.2], .tup [.int u.1, .int u.2]] :: zipD (lD a) (lD b)) _ _ = .nx r []) ∧ (refM (x :: a) (u :: b) = false → forF _ _ (.tup [.tup [.int x.1, .int x.2], .tup [.int u.1, .int u.2]] :: zipD (lD a) (lD b)) _ _ = _)
    unfold refM
    cases hk : okP x u with
    | true =>
      rw [if_pos hk] at eb
      rw [forF_cons (e_pair _ _ _ _ _) eb, Bool.true_and]
      exact ⟨k1, k2⟩
    | false =>
      rw [hk] at eb
      refine ⟨(fun h => by cases h), fun _ => ?_⟩
      unfold forF
      rw [e_pair]
      dsimp only
      rw [show ([some p, some q, y, z].set 2 (some (.d (.tup [.int x.1, .int x.2])))).set 3 (some (.d (.tup [.int u.1, .int u.2]))) = [some p, some q, some (.d (.tup [.int x.1, .int x.2])), some (.d (.tup [.int u.1, .int u.2]))] from rfl, eb]
      rfl
theorem lrefine_v {a b : Li} (h : a.length = b.length) (hb : Lm b) : F_limits_refine [.d (.lst (lD a)), .d (.lst (lD b))] [] = .ok (.d (.bl (refM a b))) [] := by
  obtain ⟨k1, k2⟩ := lr_loop a b (.d (.lst (lD a))) (.d (.lst (lD b))) none none h hb.rg
  unfold F_limits_refine S_limits_refine
  rw [e_body]
  simp [h]
  cases hr : refM a b with
  | true =>
    obtain ⟨r, e⟩ := k1 hr
    rw [e]
    simp
  | false =>
    rw [k2 hr]
    simp
theorem refines_v {a b : Li} (h : a.length = b.length) (hb : Lm b) (s) : runC false F_refines [.d (gO a), .d (gO b)] s = .ok (.d (.bl (refM a b))) s := run0_d (s2 := []) (by
  have q : ∀ s, runC false F_limits_refine [.d (.lst (lD a)), .d (.lst (lD b))] s = .ok (.d (.bl (refM a b))) s := fun s => run0_d (lrefine_v h hb) rfl
  unfold F_refines S_refines
  rw [e_body]
  simp [ch2_v h, q]) rfl
/-! ### the meeting -/
structure Mt (a b : Li) : Prop where
  la : Lm a
  lb : Lm b
  len : a.length = b.length
  m : Lm (meetM a b)
theorem meeting_e {a b : Li} (h : Mt a b) : F_meeting [.d (gO a), .d (gO b)] [] = runOut ((runM false 6 F_Grid___init__ [.d (.lst (lD (meetM a b)))] []).bindS [some (.d (gO a)), some (.d (gO b))] fun v s1 => .rt v s1) := by
  have q : ∀ s, runC false F_meeting_limits [.d (.lst (lD a)), .d (.lst (lD b))] s = .ok (.d (.lst (lD (meetM a b)))) s := fun s => run0_l (meetl_v h.la h.lb h.len) rfl rfl
  unfold F_meeting S_meeting
  rw [e_body]
  simp [ch2_v h.len, q]
theorem meeting_v {a b : Li} (h : Mt a b) (hc : cnt (meetM a b) ≤ 600) (s) : runC false F_meeting [.d (gO a), .d (gO b)] s = .ok (.d (gO (meetM a b))) s := run0_d (s2 := []) (by rw [meeting_e h, make_v h.m hc]; rfl) rfl
theorem meeting_x {a b : Li} (h : Mt a b) (hc : 600 < cnt (meetM a b)) (s) : runC false F_meeting [.d (gO a), .d (gO b)] s = .exc (.exc 5 ["value"] [.int (cnt (meetM a b))]) s := run0_x (s2 := []) (by rw [meeting_e h, make_x h.m hc]; rfl) rfl
end FL

set_option Elab.async false
set_option linter.all false
set_option maxRecDepth 100000
set_option maxHeartbeats 1000000
namespace FL
open PySem PySem.Spec PyProof.Rows L2
def Z5_law : FS := (retS (op2F (eqX false) (methF false 6 "limits" F_Grid_limits [] (callF false F_meeting [] (consA (makeF false 6 F_Grid___init__ [] (consA (lstF false (consA (tupF (consA (litF (.int 0)) (consA (litF (.int 24)) nilA))) nilA)) nilA)) (consA (makeF false 6 F_Grid___init__ [] (consA (lstF false (consA (tupF (consA (litF (.int 0)) (consA (litF (.int 25)) nilA))) nilA)) nilA)) nilA))) nilA) (lstF false (consA (tupF (consA (litF (.int 0)) (consA (litF (.int 600)) nilA))) nilA))))
def Y4_law : FS := (ifS (op2F (eqX true) (callF false F__law_caught [] (consA (litF (.int 1)) (consA (makeF false 6 F_Grid___init__ [] (consA (lstF false (consA (tupF (consA (litF (.int 1)) (consA (litF (.int 24)) nilA))) nilA)) nilA)) (consA (makeF false 6 F_Grid___init__ [] (consA (lstF false (consA (tupF (consA (litF (.int 0)) (consA (litF (.int 25)) nilA))) nilA)) nilA)) nilA)))) (lstF false (consA (lstF false (consA (litF (.bl false)) (consA (litF (.bl false)) (consA (litF (.bl true)) nilA)))) (consA (litF (.int 601)) nilA)))) (retS (litF (.bl false))) skipS)
def Z4_law : FS := seqS Y4_law Z5_law
def Y3_law : FS := (forS (nameG 7) (rng1F (consA (litF (.int 2)) nilA)) B6_law)
def Z3_law : FS := seqS Y3_law Z4_law
def Y2_law : FS := (ifS (op2F (eqX true) (lcF false [4] (nameG 4) (iterF (lstF false (consA (litF .non) (consA (litF (.int 3)) (consA (lstF false (consA (tupF (consA (litF (.int 1)) (consA (litF (.int 2)) nilA))) nilA)) (consA (litF (.str "a")) (consA (tupF (consA (litF (.int 1)) (consA (litF (.int 2)) nilA))) nilA))))))) T2_law E3_law) (lstF false nilA)) (retS (litF (.bl false))) skipS)
def Z2_law : FS := seqS Y2_law Z3_law
def Y1_law : FS := (asgS (tupG 2 (consG (nameG 5) (consG (nameG 6) nilG))) (tupF (consA (makeF false 6 F_Grid___init__ [] (consA (lstF false (consA (tupF (consA (litF (.int 1)) (consA (litF (.int 2)) nilA))) nilA)) nilA)) (consA (makeF false 6 F_Grid___init__ [] (consA (lstF false (consA (tupF (consA (litF (.int 1)) (consA (litF (.int 2)) nilA))) (consA (tupF (consA (litF (.int 0)) (consA (litF (.int 1)) nilA))) nilA))) nilA)) nilA))))
def Z1_law : FS := seqS Y1_law Z2_law
def Y0_law : FS := (forS (nameG 1) (rng1F (consA (litF (.int 3)) nilA)) B1_law)
theorem z_law : S_law = seqS Y0_law Z1_law := rfl
def Z14__law_pair_good : FS := (retS (orF (notF (varF 11)) (op2F (isBlX false) (callF false F_refines [] (consA (makeF false 6 F_Grid___init__ [] (consA (callBF (listX false) (consA (varF 10) nilA)) nilA)) (consA (varF 7) nilA))) (litF (.bl true)))))
def Y13__law_pair_good : FS := (setS 11 (andF (callF false F__law_refines [] (consA (varF 10) (consA (varF 1) nilA))) (callF false F__law_refines [] (consA (varF 10) (consA (varF 2) nilA)))))
def Z13__law_pair_good : FS := seqS Y13__law_pair_good Z14__law_pair_good
def Y12__law_pair_good : FS := (ifS (op2F (gtX) (callF false F__law_many [] (consA (varF 10) nilA)) (litF (.int 600))) (retS (litF (.bl true))) skipS)
def Z12__law_pair_good : FS := seqS Y12__law_pair_good Z13__law_pair_good
def Y11__law_pair_good : FS := (setS 10 (callF false F__law_other [] (consA (varF 0) (consA (varF 6) nilA))))
def Z11__law_pair_good : FS := seqS Y11__law_pair_good Z12__law_pair_good
def Y10__law_pair_good : FS := (ifS (orF (op2F (eqX true) (callF false F_class_of [] (consA (varF 7) (consA (op2F (mulX false) (lstF false (consA (litF (.int 41)) nilA)) (callBF lenX (consA (varF 1) nilA))) nilA))) (callF false F__law_class [] (consA (varF 6) (consA (op2F (mulX false) (lstF false (consA (litF (.int 41)) nilA)) (callBF lenX (consA (varF 1) nilA))) nilA)))) (op2F (isBlX true) (op2F (eqOX 6 F_Grid___eq__) (callF false F_meeting [] (consA (varF 7) (consA (varF 3) nilA))) (varF 7)) (litF (.bl true)))) (retS (litF (.bl false))) skipS)
def Z10__law_pair_good : FS := seqS Y10__law_pair_good Z11__law_pair_good
def Y9__law_pair_good : FS := (ifS (orF (op2F (eqX true) (methF false 6 "limits" F_Grid_limits [] (callF false F_meeting [] (consA (varF 3) (consA (varF 3) nilA))) nilA) (varF 1)) (orF (op2F (eqX true) (methF false 6 "limits" F_Grid_limits [] (callF false F_meeting [] (consA (varF 3) (consA (varF 4) nilA))) nilA) (varF 6)) (op2F (isBlX true) (callF false F_refines [] (consA (varF 3) (consA (varF 3) nilA))) (litF (.bl true))))) (retS (litF (.bl false))) skipS)
def Z9__law_pair_good : FS := seqS Y9__law_pair_good Z10__law_pair_good
def Y8__law_pair_good : FS := (ifS (orF (op2F (isBlX true) (callF false F_refines [] (consA (varF 7) (consA (varF 3) nilA))) (litF (.bl true))) (op2F (isBlX true) (callKF false 2 2 F_refines [0, 1] (consA (varF 7) (consA (varF 4) nilA))) (litF (.bl true)))) (retS (litF (.bl false))) skipS)
def Z8__law_pair_good : FS := seqS Y8__law_pair_good Z9__law_pair_good
def Y7__law_pair_good : FS := (ifS (orF (notF (callBF (isEX nC subB ownB exB) (consA (varF 7) (consA (litF (.cls 6)) nilA)))) (orF (op2F (eqX true) (methF false 6 "limits" F_Grid_limits [] (varF 7) nilA) (varF 6)) (op2F (isBlX true) (op2F (eqOX 6 F_Grid___eq__) (callKF false 2 2 F_meeting [0, 1] (consA (varF 4) (consA (varF 3) nilA))) (varF 7)) (litF (.bl true))))) (retS (litF (.bl false))) skipS)
def Z7__law_pair_good : FS := seqS Y7__law_pair_good Z8__law_pair_good
def Y6__law_pair_good : FS := (ifS (op2F (gtX) (callF false F__law_many [] (consA (varF 6) nilA)) (litF (.int 600))) (retS (andF (op2F (isNoneX false) (varF 7) (litF .non)) (op2F (eqX false) (varF 8) (callF false F__law_many [] (consA (varF 6) nilA))))) skipS)
def Z6__law_pair_good : FS := seqS Y6__law_pair_good Z7__law_pair_good
def Y5__law_pair_good : FS := (tryValS subB exB 5 9 8 B0__law_pair_good)
def Z5__law_pair_good : FS := seqS Y5__law_pair_good Z6__law_pair_good
def Y4__law_pair_good : FS := (par3S 6 7 8 (consA (callF false F__law_meeting [] (consA (varF 1) (consA (varF 2) nilA))) (consA (litF .non) (consA (litF .non) nilA))))
def Z4__law_pair_good : FS := seqS Y4__law_pair_good Z5__law_pair_good
def Y3__law_pair_good : FS := (ifS (orF (op2F (isBlX true) (callF false F_refines [] (consA (varF 3) (consA (varF 3) nilA))) (litF (.bl true))) (notF (callF false F__law_yes [] (consA (op2F (eqOX 6 F_Grid___eq__) (varF 3) (varF 4)) (consA (op2F (eqOX 6 F_Grid___eq__) (varF 1) (varF 2)) nilA))))) (retS (litF (.bl false))) skipS)
def Z3__law_pair_good : FS := seqS Y3__law_pair_good Z4__law_pair_good
def Y2__law_pair_good : FS := (ifS (orF (notF (callF false F__law_yes [] (consA (callF false F_refines [] (consA (varF 3) (consA (varF 4) nilA))) (consA (varF 5) nilA)))) (op2F (eqX true) (callF false F__law_lies_within [] (consA (varF 1) (consA (varF 4) nilA))) (varF 5))) (retS (litF (.bl false))) skipS)
def Z2__law_pair_good : FS := seqS Y2__law_pair_good Z3__law_pair_good
def Y1__law_pair_good : FS := (setS 5 (callF false F__law_refines [] (consA (varF 1) (consA (varF 2) nilA))))
def Z1__law_pair_good : FS := seqS Y1__law_pair_good Z2__law_pair_good
def Y0__law_pair_good : FS := (par2S 3 4 (consA (makeF false 6 F_Grid___init__ [] (consA (callBF (listX false) (consA (varF 1) nilA)) nilA)) (consA (makeF false 6 F_Grid___init__ [] (consA (callBF (listX false) (consA (varF 2) nilA)) nilA)) nilA)))
theorem z__law_pair_good : S__law_pair_good = seqS Y0__law_pair_good Z1__law_pair_good := rfl
def Z5__law_other : FS := (retS (varF 2))
def Y4__law_other : FS := (ifS (op2F (eqX false) (varF 3) (litF (.int 1))) (setIxS (tupF (consA (op2F (addX false) (varF 5) (litF (.int 1))) (consA (varF 6) nilA))) (varF 2) (varF 4)) (ifS (op2F (eqX false) (varF 3) (litF (.int 2))) (setIxS (tupF (consA (varF 5) (consA (op2F (mulX false) (varF 6) (op2F (addX false) (litF (.int 2)) (callF false F__law_random [] (consA (varF 0) (consA (litF (.int 2)) nilA))))) nilA))) (varF 2) (varF 4)) (ifS (op2F (eqX false) (varF 3) (litF (.int 3))) (setIxS (tupF (consA (callBF maxX (consA (op2F subX (varF 5) (litF (.int 1))) (consA (litF (.int 0)) nilA))) (consA (varF 6) nilA))) (varF 2) (varF 4)) (setIxS (tupF (consA (varF 5) (consA (op2F (addX false) (litF (.int 1)) (callF false F__law_random [] (consA (varF 0) (consA (varF 6) nilA)))) nilA))) (varF 2) (varF 4)))))
def Z4__law_other : FS := seqS Y4__law_other Z5__law_other
def Y3__law_other : FS := (asgS (tupG 2 (consG (nameG 5) (consG (nameG 6) nilG))) (op2F ixX (varF 1) (varF 4)))
def Z3__law_other : FS := seqS Y3__law_other Z4__law_other
def Y2__law_other : FS := (setS 4 (callF false F__law_random [] (consA (varF 0) (consA (callBF lenX (consA (varF 1) nilA)) nilA))))
def Z2__law_other : FS := seqS Y2__law_other Z3__law_other
def Y1__law_other : FS := (ifS (orF (op2F (eqX false) (varF 3) (litF (.int 0))) (op2F (eqX false) (varF 1) (lstF false nilA))) (retS (callF false F__law_limits [] (consA (varF 0) (consA (callBF lenX (consA (varF 1) nilA)) (consA (litF (.int 3)) (consA (litF (.int 6)) nilA)))))) skipS)
def Z1__law_other : FS := seqS Y1__law_other Z2__law_other
def Y0__law_other : FS := (par2S 2 3 (consA (callBF (listX true) (consA (varF 1) nilA)) (consA (callF false F__law_random [] (consA (varF 0) (consA (litF (.int 5)) nilA))) nilA)))
theorem z__law_other : S__law_other = seqS Y0__law_other Z1__law_other := rfl
theorem tail_v (x0 x1 x2 x3 x4 x5 x6 x7 x8 x9 : Option Xv) (s : Sto) : Z1_law [x0, x1, x2, x3, x4, x5, x6, x7, x8, x9] s = .rt (.d (.bl true)) s := by kernel_rfl
end FL

set_option Elab.async false
set_option linter.all false
set_option maxRecDepth 100000
set_option maxHeartbeats 1000000
namespace FL
open PySem PySem.Spec PyProof.Rows L2
@[simp] theorem eq_bb (n a b s) : eqX n (.d (.bl a)) (.d (.bl b)) s = .ok (.d (.bl (if n then !decide (a = b) else decide (a = b)))) s := by
  cases n <;> cases a <;> cases b <;> rfl
@[simp] theorem yes_v (a b : Bool) (s) : runC false F__law_yes [.d (.bl a), .d (.bl b)] s = .ok (.d (.bl (decide (a = b)))) s := run0_d (s2 := []) (by
  unfold F__law_yes S__law_yes
  rw [e_body]
  simp) rfl
/-! ### the greatest common divisor -/
@[simp] theorem e_while (μ c b ρ s) : whileS μ c b ρ s = whileN c b (μ ρ s) ρ s := nr rfl
theorem whileN_t {c : FE} {b : FS} {n : Nat} {ρ r : Env'} {s s1 s2 : Sto} (h : c ρ s = .ok (.d (.bl true)) s1) (h2 : b ρ s1 = .nx r s2) : whileN c b (n + 1) ρ s = whileN c b n r s2 := by
  conv => lhs; unfold whileN
  rw [h]
  simp
  rw [h2]
theorem whileN_f {c : FE} {b : FS} {n : Nat} {ρ : Env'} {s s1 : Sto} (h : c ρ s = .ok (.d (.bl false)) s1) : whileN c b (n + 1) ρ s = .nx ρ s1 := by
  conv => lhs; unfold whileN
  rw [h]
  simp
theorem gcd_loop : ∀ (n a b : Nat), b < n → whileN (op2F (gtX) (varF 1) (litF (.int 0))) B0__law_gcd n [some (.d (.int a)), some (.d (.int b))] [] = .nx [some (.d (.int (a.gcd b : Nat))), some (.d (.int 0))] []
  | 0, a, b, h => by omega
  | n + 1, a, b, h => by
    by_cases hb : 0 < b
    · have hm : b ≠ 0 := by omega
      rw [whileN_t (s1 := []) (s2 := []) (r := [some (.d (.int b)), some (.d (.int (a % b : Nat)))]) (by simp; omega) (by
        unfold B0__law_gcd
        simp [e_mod _ _ _ (show (0 : Int) < b by omega)])]
      have e := gcd_loop n b (a % b) (by have := Nat.mod_lt a hb; omega)
      rw [e, Nat.gcd_comm b (a % b), Nat.gcd_comm a b, ← Nat.gcd_rec]
    · have h0 : b = 0 := by omega
      subst h0
      rw [whileN_f (s1 := []) (by simp)]
      simp
theorem gcd_v (a b : Nat) (s) : runC false F__law_gcd [.d (.int a), .d (.int b)] s = .ok (.d (.int (a.gcd b : Nat))) s := run0_d (s2 := []) (by
  unfold F__law_gcd S__law_gcd
  rw [e_body]
  have e := gcd_loop (b + 1) a b (by omega)
  simp
  rw [e]
  simp) rfl
theorem lcm_v {a b : Int} (ha : 1 ≤ a ∧ a ≤ 2000) (hb : 1 ≤ b ∧ b ≤ 2000) (s) : runC false F__law_lcm [.d (.int a), .d (.int b)] s = .ok (.d (.int (lcmI a b))) s := run0_d (s2 := []) (by
  obtain ⟨a', rfl⟩ : ∃ n : Nat, a = n := ⟨a.toNat, by omega⟩
  obtain ⟨b', rfl⟩ : ∃ n : Nat, b = n := ⟨b.toNat, by omega⟩
  have hg : 0 < a'.gcd b' := Nat.gcd_pos_of_pos_left _ (by omega)
  have hg2 : a'.gcd b' ≤ a' := Nat.gcd_le_left _ (by omega)
  have hl : ((a'.gcd b' : Nat) : Int).natAbs.log2 < 9000 := by
    have := log_lt (n := a'.gcd b') (k := 20) (by omega)
    simp
    omega
  unfold F__law_lcm S__law_lcm
  rw [e_body]
  simp [gcd_v]
  rw [e_mul2 _ _ _ _ (by unfold Bd; omega) (by unfold Bd; omega)]
  simp
  rw [e_div _ _ _ (by omega) hl]
  simp [lcmI, Nat.lcm]) rfl
/-! ### lists by place -/
theorem e_sl_lo_l {xs : List D} {j : Nat} (s) (h : j ≤ xs.length) : slX false (.d (.lst xs)) (.d .non) (.d (.int (j : Int))) s = .ok (.d (.lst (xs.take j))) s := by
  show mkL false (cutD xs none (some (j : Int))) s = _
  rw [cut_lo h]
  rfl
theorem e_sl_hi_l {xs : List D} {j : Nat} (s) (h : j ≤ xs.length) : slX false (.d (.lst xs)) (.d (.int (j : Int))) (.d .non) s = .ok (.d (.lst (xs.drop j))) s := by
  show mkL false (cutD xs (some (j : Int)) none) s = _
  rw [cut_hi h]
  rfl
theorem put_v {pt : List Int} {j : Nat} {c : Int} (h : j < pt.length) (hl : pt.length ≤ 1000) (s) : runC false F__law_put_at [.d (.lst (nsD pt)), .d (.int (j : Int)), .d (.int c)] s = .ok (.d (.lst (nsD (pt.set j c)))) s := run0_d (s2 := []) (by
  have e1 : ((j : Int) + 1) = ((j + 1 : Nat) : Int) := by push_cast; rfl
  have e2 := e_sl_lo_l (xs := nsD pt) (j := j) [] (by simp; omega)
  have e3 := e_sl_hi_l (xs := nsD pt) (j := j + 1) [] (by simp; omega)
  have e4 : ((nsD pt).take j ++ [.int c]) ++ (nsD pt).drop (j + 1) = nsD (pt.set j c) := by
    rw [List.set_eq_take_append_cons_drop, if_pos h]
    simp
  unfold F__law_put_at S__law_put_at
  rw [e_body]
  simp
  rw [e2]
  simp
  rw [add_lst _ _ _ _ (by simp; omega)]
  simp
  rw [e1, e3]
  simp
  rw [add_lst _ _ _ _ (by simp; omega), e4]
  simp) rfl
theorem lm_loop : ∀ (l : Li) (a : Int) (o y), l.length ≤ 3 → (∀ p ∈ l, Le1 p) → 0 ≤ a → a ≤ 5000 ^ (3 - l.length) →
    ∃ y', forF (nameG 2) B0__law_many (lD l) [some o, some (.d (.int a)), y] [] = .nx [some o, some (.d (.int (cntA a l))), y'] []
  | [], a, o, y, _, _, _, _ => ⟨y, rfl⟩
  | p :: l, a, o, y, hl, hp, h0, ha => by
    obtain ⟨p1, p2, p3, p4⟩ := hp p (List.mem_cons_self ..)
    have hl' : l.length + 1 ≤ 3 := hl
    have e3 : 3 - l.length = (3 - (p :: l).length) + 1 := by rw [List.length_cons]; omega
    obtain ⟨q1, q2⟩ := step_le (x := p.1 + p.2) h0 ha (by rw [List.length_cons]; omega) (by omega) (by omega)
    obtain ⟨y', e⟩ := lm_loop l (a * (p.1 + p.2)) o (some (.d (.tup [.int p.1, .int p.2]))) (by omega) (fun x hx => hp x (List.mem_cons_of_mem _ hx)) q1 (by rw [e3]; exact q2)
    have i1 (s) : ixX (.d (.tup [.int p.1, .int p.2])) (.d (.int 1)) s = .ok (.d (.int p.2)) s := ix_t (j := 1) rfl
    refine ⟨y', ?_⟩
    show forF _ _ (.tup [.int p.1, .int p.2] :: lD l) _ _ = _
    rw [forF_cons (e_name _ _ _) (r2 := [some o, some (.d (.int (a * (p.1 + p.2)))), some (.d (.tup [.int p.1, .int p.2]))]) (s2 := [])]
    · exact e
    · unfold B0__law_many
      simp [i1]
      rw [e_mul2 _ _ _ _ (bd_pow h0 ha (by omega)) (by unfold Bd; omega)]
      simp
theorem lmany_v {l : Li} (h : Lm l) (s) : runC false F__law_many [.d (.lst (lD l))] s = .ok (.d (.int (cnt l))) s := run0_d (s2 := []) (by
  have h1 : (1 : Int) ≤ 5000 ^ (3 - l.length) := by
    rcases (show 3 - l.length = 0 ∨ 3 - l.length = 1 ∨ 3 - l.length = 2 ∨ 3 - l.length = 3 by omega) with e | e | e | e <;> rw [e] <;> decide
  obtain ⟨y, e⟩ := lm_loop l 1 (.d (.lst (lD l))) none h.len h.rg (by decide) h1
  unfold F__law_many S__law_many
  rw [e_body]
  unfold iterF
  simp at e ⊢
  rw [e]
  simp
  rfl) rfl
theorem lleast_v (t p c : Int) (hp : 1 ≤ p) (s) : runC false F__law_least [.d (.tup [.int t, .int p]), .d (.int c)] s = .ok (.d (.int (leastM (t, p) c))) s := run0_d (s2 := []) (by
  have i1 (s) : ixX (.d (.tup [.int t, .int p])) (.d (.int 1)) s = .ok (.d (.int p)) s := ix_t (j := 1) rfl
  unfold F__law_least S__law_least
  rw [e_body]
  unfold leastM
  by_cases h : c < t
  · simp [h]
  · simp [h, i1, e_mod _ _ _ (show 0 < p by omega)]) rfl
theorem lD_at {l : Li} {j : Nat} {p : Int × Int} (h : l[j]? = some p) : (lD l)[j]? = some (.tup [.int p.1, .int p.2]) := by
  rw [List.getElem?_map, h]
  rfl
theorem nsD_at {l : List Int} {j : Nat} {p : Int} (h : l[j]? = some p) : (nsD l)[j]? = some (.int p) := by
  rw [List.getElem?_map, h]
  rfl
theorem zw_at {α β γ : Type} {f : α → β → γ} {a : List α} {b : List β} {j : Nat} {v : γ} (h : (List.zipWith f a b)[j]? = some v) : ∃ x y, a[j]? = some x ∧ b[j]? = some y ∧ v = f x y := by
  rw [List.getElem?_zipWith] at h
  cases ha : a[j]? with
  | none => rw [ha] at h; cases h
  | some x =>
    cases hb : b[j]? with
    | none => rw [ha, hb] at h; cases h
    | some y =>
      rw [ha, hb] at h
      cases h
      exact ⟨x, y, rfl, rfl, rfl⟩
theorem lclass_v {l : Li} {pt : List Int} (h : Lm l) (hl : pt.length = l.length) (s) : runC false F__law_class [.d (.lst (lD l)), .d (.lst (nsD pt))] s = .ok (.d (.lst (nsD (redM l pt)))) s := run0_d (s2 := []) (by
  have hn : (nsD (redM l pt)).length = l.length := by simp [redM, hl]
  have e := compN_rng (asg := nameG 2) (f := E0__law_class) (ρ := [some (.d (.lst (lD l))), some (.d (.lst (nsD pt))), none]) (s := []) (nsD (redM l pt)) 0 (fun j v hv => by
    obtain ⟨w, hw, rfl⟩ : ∃ w, (redM l pt)[j]? = some w ∧ v = .int w := by
      rw [List.getElem?_map] at hv
      cases q : (redM l pt)[j]? with
      | none => rw [q] at hv; cases hv
      | some w => rw [q] at hv; cases hv; exact ⟨w, rfl, rfl⟩
    obtain ⟨p, c, h1, h2, rfl⟩ := zw_at hw
    have q := lleast_v p.1 p.2 c (h.rg p (List.mem_of_getElem? h1)).2.1 []
    refine ⟨_, rfl, ?_⟩
    unfold E0__law_class
    simp
    rw [ix_l (lD_at h1)]
    simp
    rw [ix_l (nsD_at h2)]
    simp [q])
  rw [hn] at e
  unfold F__law_class S__law_class
  rw [e_body]
  simp
  rw [e_rng _ _ (by omega) (by have := h.len; omega)]
  simp [rng_len, show l.length ≤ 1000000 by have := h.len; omega, e]) rfl
theorem lmeet_v {a b : Li} (ha : Lm a) (hb : Lm b) (hl : b.length = a.length) (s) : runC false F__law_meeting [.d (.lst (lD a)), .d (.lst (lD b))] s = .ok (.d (.lst (lD (meetM a b)))) s := run0_d (s2 := []) (by
  have hn : (lD (meetM a b)).length = a.length := by simp [meetM, hl]
  have e := compN_rng (asg := nameG 2) (f := E0__law_meeting) (ρ := [some (.d (.lst (lD a))), some (.d (.lst (lD b))), none]) (s := []) (lD (meetM a b)) 0 (fun j v hv => by
    obtain ⟨w, hw, rfl⟩ : ∃ w, (meetM a b)[j]? = some w ∧ v = .tup [.int w.1, .int w.2] := by
      rw [List.getElem?_map] at hv
      cases q : (meetM a b)[j]? with
      | none => rw [q] at hv; cases hv
      | some w => rw [q] at hv; cases hv; exact ⟨w, rfl, rfl⟩
    obtain ⟨p, c, h1, h2, rfl⟩ := zw_at hw
    obtain ⟨p1, p2, p3, p4⟩ := ha.rg p (List.mem_of_getElem? h1)
    obtain ⟨c1, c2, c3, c4⟩ := hb.rg c (List.mem_of_getElem? h2)
    have q := lcm_v ⟨p2, p4⟩ ⟨c2, c4⟩ []
    have i1 (s) : ixX (.d (.tup [.int p.1, .int p.2])) (.d (.int 1)) s = .ok (.d (.int p.2)) s := ix_t (j := 1) rfl
    have i2 (s) : ixX (.d (.tup [.int c.1, .int c.2])) (.d (.int 1)) s = .ok (.d (.int c.2)) s := ix_t (j := 1) rfl
    refine ⟨_, rfl, ?_⟩
    unfold E0__law_meeting
    simp [ix_l (lD_at h1), ix_l (lD_at h2), i1, i2, q]
    rfl)
  rw [hn] at e
  unfold F__law_meeting S__law_meeting
  rw [e_body]
  simp
  rw [e_rng _ _ (by omega) (by have := ha.len; omega)]
  simp [rng_len, show a.length ≤ 1000000 by have := ha.len; omega, e]) rfl
theorem lf_loop (A B : Li) (hB : ∀ e ∈ B, Le1 e) : ∀ (a b pa pb : Li) (y), A = pa ++ a → B = pb ++ b → pa.length = pb.length → a.length = b.length →
    (refM a b = true → ∃ r, forF (nameG 2) B0__law_refines (rngD pa.length a.length) [some (.d (.lst (lD A))), some (.d (.lst (lD B))), y] [] = .nx r []) ∧
    (refM a b = false → forF (nameG 2) B0__law_refines (rngD pa.length a.length) [some (.d (.lst (lD A))), some (.d (.lst (lD B))), y] [] = .rt (.d (.bl false)) [])
  | [], [], pa, pb, y, _, _, _, _ => ⟨fun _ => ⟨_, rfl⟩, (fun h => by cases h)⟩
  | [], _ :: _, _, _, _, _, _, _, h => by cases h
  | _ :: _, [], _, _, _, _, _, _, h => by cases h
  | x :: a, u :: b, pa, pb, y, e1, e2, e3, e4 => by
    obtain ⟨k1, k2⟩ := lf_loop A B hB a b (pa ++ [x]) (pb ++ [u]) (some (.d (.int pa.length))) (by rw [e1]; simp) (by rw [e2]; simp) (by simp [e3]) (by simpa using e4)
    have hu := (hB u (by rw [e2]; simp)).2.1
    have a1 : A[pa.length]? = some x := by rw [e1]; simp
    have b1 : B[pa.length]? = some u := by rw [e2, e3]; simp
    have i1 (s) : ixX (.d (.tup [.int x.1, .int x.2])) (.d (.int 1)) s = .ok (.d (.int x.2)) s := ix_t (j := 1) rfl
    have i2 (s) : ixX (.d (.tup [.int u.1, .int u.2])) (.d (.int 1)) s = .ok (.d (.int u.2)) s := ix_t (j := 1) rfl
    have eb : B0__law_refines [some (.d (.lst (lD A))), some (.d (.lst (lD B))), some (.d (.int pa.length))] [] = if okP x u = true then .nx [some (.d (.lst (lD A))), some (.d (.lst (lD B))), some (.d (.int pa.length))] [] else .rt (.d (.bl false)) [] := by
      unfold B0__law_refines okP
      by_cases h1 : x.1 < u.1
      · simp [ix_l (lD_at a1), ix_l (lD_at b1), h1]
      · by_cases h2 : x.2 % u.2 = 0 <;> simp [ix_l (lD_at a1), ix_l (lD_at b1), h1, i1, i2, e_mod _ _ _ (show 0 < u.2 by omega), h2]
    have es : rngD (pa.length : Int) (x :: a).length = .int pa.length :: rngD ((pa ++ [x]).length : Nat) a.length := by
      rw [List.length_cons, rngD_succ]
      simp
    rw [es]
    unfold refM
    cases hk : okP x u with
    | true =>
      rw [if_pos hk] at eb
      rw [forF_cons (e_name _ _ _) eb, Bool.true_and]
      exact ⟨k1, k2⟩
    | false =>
      rw [hk] at eb
      refine ⟨(fun h => by cases h), fun _ => ?_⟩
      unfold forF
      rw [e_name]
      dsimp only
      rw [show [some (Xv.d (.lst (lD A))), some (.d (.lst (lD B))), y].set 2 (some (.d (.int pa.length))) = [some (.d (.lst (lD A))), some (.d (.lst (lD B))), some (.d (.int pa.length))] from rfl, eb]
      rfl
theorem lref_v {a b : Li} (ha : a.length ≤ 3) (hb : Lm b) (hl : a.length = b.length) (s) : runC false F__law_refines [.d (.lst (lD a)), .d (.lst (lD b))] s = .ok (.d (.bl (refM a b))) s := run0_d (s2 := []) (by
  obtain ⟨k1, k2⟩ := lf_loop a b hb.rg a b [] [] none rfl rfl rfl hl
  unfold F__law_refines S__law_refines
  rw [e_body]
  simp
  rw [e_rng _ _ (by omega) (by omega)]
  simp at k1 k2 ⊢
  cases hr : refM a b with
  | true =>
    obtain ⟨r, e⟩ := k1 hr
    rw [e]
    simp
  | false =>
    rw [k2 hr]
    simp) rfl
end FL

set_option Elab.async false
set_option linter.all false
set_option maxRecDepth 100000
set_option maxHeartbeats 1000000
namespace FL
open PySem PySem.Spec PyProof.Rows L2
/-! ### all points of a box -/
abbrev ptD (P : List (List Int)) : List D := P.map fun pt => .lst (nsD pt)
def nextM (z : Int) (P : List (List Int)) : List (List Int) := P.flatMap fun pt => (List.range z.toNat).map fun c : Nat => pt ++ [(c : Int)]
def boxA (P : List (List Int)) : List Int → List (List Int)
  | [] => P
  | z :: zs => boxA (nextM z P) zs
def prodN : List Int → Nat
  | [] => 1
  | z :: zs => z.toNat * prodN zs
def Pu (x : Option Xv) : Prop := ∀ i, x ≠ some (.ref i)
theorem pu_d (d : D) : Pu (some (.d d)) := fun i h => by cases h
theorem pu_n : Pu none := fun i h => by cases h
theorem frz_pu {x : Option Xv} (h : Pu x) (j : Nat) (d : D) : frzO j d x = x := by
  cases x with
  | none => rfl
  | some v =>
    cases v with
    | d v => rfl
    | ref i => exact (h i rfl).elim
theorem bx0 (s0 : Sto) (a b c : Option Xv) (pt : List Int) (hp : pt.length ≤ 1000) : ∀ (n : Nat) (lo : Int) (z) (acc : List D), Pu z → acc.length + n ≤ 1000 →
    ∃ z', Pu z' ∧ forF (nameG 5) B0__law_box (rngD lo n) [a, b, c, some (.ref s0.length), some (.d (.lst (nsD pt))), z] (s0 ++ [.lst acc]) = .nx [a, b, c, some (.ref s0.length), some (.d (.lst (nsD pt))), z'] (s0 ++ [.lst (acc ++ (List.range n).map fun k : Nat => .lst (nsD (pt ++ [lo + k])))])
  | 0, lo, z, acc, hz, _ => ⟨z, hz, by simp; rfl⟩
  | n + 1, lo, z, acc, hz, hl => by
    obtain ⟨z', h1, e⟩ := bx0 s0 a b c pt hp n (lo + 1) (some (.d (.int lo))) (acc ++ [.lst (nsD (pt ++ [lo]))]) (pu_d _) (by simp; omega)
    refine ⟨z', h1, ?_⟩
    rw [rngD_succ, forF_cons (e_name _ _ _) (r2 := [a, b, c, some (.ref s0.length), some (.d (.lst (nsD pt))), some (.d (.int lo))]) (s2 := s0 ++ [.lst (acc ++ [.lst (nsD (pt ++ [lo]))])])]
    · rw [e, List.range_succ_eq_map]
      simp [Function.comp_def, Int.add_assoc, Int.add_comm 1]
    · unfold B0__law_box
      rw [e_expr, e_app (i := s0.length) (xs := acc) (y := .lst (nsD (pt ++ [lo])))]
      · simp
      · simp
      · simp
        rw [add_lst _ _ _ _ (by simp; omega)]
        simp
      · simp
      · omega
theorem bx1 (s0 : Sto) (a b : Option Xv) (z : Int) (hz0 : 0 ≤ z) (hz1 : z ≤ 4000) : ∀ (P : List (List Int)) (p c) (acc : List D), Pu p → Pu c → (∀ pt ∈ P, pt.length ≤ 1000) → acc.length + P.length * z.toNat ≤ 1000 →
    ∃ p' c', Pu p' ∧ Pu c' ∧ forF (nameG 4) B1__law_box (ptD P) [a, b, some (.d (.int z)), some (.ref s0.length), p, c] (s0 ++ [.lst acc]) = .nx [a, b, some (.d (.int z)), some (.ref s0.length), p', c'] (s0 ++ [.lst (acc ++ ptD (nextM z P))])
  | [], p, c, acc, hp, hc, _, _ => ⟨p, c, hp, hc, by simp [nextM]; rfl⟩
  | pt :: P, p, c, acc, hp, hc, hP, hl => by
    have hl2 : acc.length + z.toNat + P.length * z.toNat ≤ 1000 := by
      rw [List.length_cons, Nat.succ_mul] at hl
      omega
    obtain ⟨c1, q1, e1⟩ := bx0 s0 a b (some (.d (.int z))) pt (hP pt (List.mem_cons_self ..)) z.toNat 0 c acc hc (by omega)
    obtain ⟨p', c', q2, q3, e2⟩ := bx1 s0 a b z hz0 hz1 P (some (.d (.lst (nsD pt)))) c1 (acc ++ (List.range z.toNat).map fun k : Nat => .lst (nsD (pt ++ [0 + (k : Int)]))) (pu_d _) q1 (fun x hx => hP x (List.mem_cons_of_mem _ hx)) (by simp; omega)
    refine ⟨p', c', q2, q3, ?_⟩
    show forF _ _ (.lst (nsD pt) :: ptD P) _ _ = _
    rw [forF_cons (e_name _ _ _) (r2 := [a, b, some (.d (.int z)), some (.ref s0.length), some (.d (.lst (nsD pt))), c1]) (s2 := s0 ++ [.lst (acc ++ (List.range z.toNat).map fun k : Nat => .lst (nsD (pt ++ [0 + (k : Int)])))])]
    · rw [e2]
      simp [nextM, ptD, Function.comp_def]
    · unfold B1__law_box
      simp
      rw [e_rng _ _ hz0 (by omega)]
      simp
      simp at e1
      exact e1
theorem bx2 (s0 : Sto) (sz : D) (P : List (List Int)) (z : Int) (x3 p c) (hz0 : 0 ≤ z) (hz1 : z ≤ 4000) (hp : Pu p) (hc : Pu c) (hP : ∀ pt ∈ P, pt.length ≤ 1000) (hl : P.length * z.toNat ≤ 1000) :
    ∃ x3' p' c', Pu p' ∧ Pu c' ∧ B2__law_box [some (.d sz), some (.d (.lst (ptD P))), some (.d (.int z)), x3, p, c] s0 = .nx [some (.d sz), some (.d (.lst (ptD (nextM z P)))), some (.d (.int z)), x3', p', c'] (s0 ++ [.dead]) := by
  obtain ⟨p', c', q2, q3, e⟩ := bx1 s0 (some (.d sz)) (some (.d (.lst (ptD P)))) z hz0 hz1 P p c [] hp hc hP (by simpa using hl)
  refine ⟨some (.d (.lst (ptD (nextM z P)))), p', c', q2, q3, ?_⟩
  unfold B2__law_box
  unfold iterF
  simp at e ⊢
  rw [e]
  simp
  unfold frzS
  simp [frzO]
  exact ⟨frz_pu q2 s0.length (.lst (ptD (nextM z P))), frz_pu q3 s0.length (.lst (ptD (nextM z P)))⟩
theorem nextM_len (z : Int) (P : List (List Int)) : (nextM z P).length = P.length * z.toNat := by
  unfold nextM
  induction P with
  | nil => simp
  | cons a P ih => simp [ih, Nat.succ_mul, Nat.add_comm]
theorem prod_pos : ∀ (zs : List Int), (∀ z ∈ zs, 1 ≤ z) → 1 ≤ prodN zs
  | [], _ => Nat.le_refl 1
  | z :: zs, h => by
    have h1 := h z (List.mem_cons_self ..)
    have h2 := prod_pos zs (fun x hx => h x (List.mem_cons_of_mem _ hx))
    exact Nat.mul_le_mul (show 1 ≤ z.toNat by omega) h2
theorem bx3 (sz : D) : ∀ (zs : List Int) (P : List (List Int)) (k : Nat) (s0 : Sto) (x2 x3 p c), (∀ z ∈ zs, 1 ≤ z ∧ z ≤ 4000) → Pu p → Pu c → (∀ pt ∈ P, pt.length ≤ k) → k + zs.length ≤ 1000 → P.length * prodN zs ≤ 1000 →
    ∃ r s', forF (nameG 2) B2__law_box (nsD zs) [some (.d sz), some (.d (.lst (ptD P))), x2, x3, p, c] s0 = .nx (some (.d sz) :: some (.d (.lst (ptD (boxA P zs)))) :: r) s'
  | [], P, k, s0, x2, x3, p, c, _, _, _, _, _, _ => ⟨_, _, rfl⟩
  | z :: zs, P, k, s0, x2, x3, p, c, hz, hp, hc, hP, hk, hl => by
    obtain ⟨z1, z2⟩ := hz z (List.mem_cons_self ..)
    have hz' : ∀ x ∈ zs, 1 ≤ x ∧ x ≤ 4000 := fun x hx => hz x (List.mem_cons_of_mem _ hx)
    have pp := prod_pos zs (fun x hx => (hz' x hx).1)
    have hl2 : (P.length * z.toNat) * prodN zs ≤ 1000 := by
      rw [Nat.mul_assoc]
      exact hl
    have hl3 : P.length * z.toNat ≤ 1000 := Nat.le_trans (Nat.le_mul_of_pos_right _ pp) hl2
    simp only [List.length_cons] at hk
    obtain ⟨x3', p', c', q2, q3, e⟩ := bx2 s0 sz P z x3 p c (by omega) z2 hp hc (fun pt h => by have := hP pt h; omega) hl3
    obtain ⟨r, s', e2⟩ := bx3 sz zs (nextM z P) (k + 1) (s0 ++ [.dead]) (some (.d (.int z))) x3' p' c' hz' q2 q3 (fun pt h => by
      obtain ⟨q, h1, h2⟩ := List.mem_flatMap.mp h
      obtain ⟨n, _, rfl⟩ := List.mem_map.mp h2
      have := hP q h1
      simp
      omega) (by omega) (by rw [nextM_len]; exact hl2)
    refine ⟨r, s', ?_⟩
    show forF _ _ (.int z :: nsD zs) _ _ = _
    rw [forF_cons (e_name _ _ _) e]
    exact e2
theorem box_v {zs : List Int} (hz : ∀ z ∈ zs, 1 ≤ z ∧ z ≤ 4000) (hk : zs.length ≤ 900) (hl : prodN zs ≤ 1000) (s) : runC false F__law_box [.d (.lst (nsD zs))] s = .ok (.d (.lst (ptD (boxA [[]] zs)))) s := by
  obtain ⟨r, s', e⟩ := bx3 (.lst (nsD zs)) zs [[]] 0 [] none none none none hz pu_n pu_n (fun pt h => by
    have : pt = [] := by simpa using h
    subst this
    exact Nat.le_refl 0) (by omega) (by simpa using hl)
  refine run0_d (s2 := s') ?_ rfl
  unfold F__law_box S__law_box
  rw [e_body]
  unfold iterF
  simp at e ⊢
  rw [e]
  simp
abbrev szM (l : Li) : List Int := l.map fun p => p.1 + p.2
theorem sz_rg {l : Li} (h : Lm l) : ∀ z ∈ szM l, 1 ≤ z ∧ z ≤ 4000 := fun z hz => by
  obtain ⟨p, hp, rfl⟩ := List.mem_map.mp hz
  obtain ⟨h1, h2, h3, h4⟩ := h.rg p hp
  omega
theorem cnt_prod : ∀ (l : Li) (a : Int), (∀ p ∈ l, Le1 p) → cntA a l = a * (prodN (szM l) : Int)
  | [], a, _ => by simp [cntA, prodN]
  | p :: l, a, h => by
    obtain ⟨h1, h2, h3, h4⟩ := h p (List.mem_cons_self ..)
    have e : ((p.1 + p.2).toNat : Int) = p.1 + p.2 := by omega
    unfold cntA
    rw [cnt_prod l _ (fun x hx => h x (List.mem_cons_of_mem _ hx))]
    show _ = a * ((((p.1 + p.2).toNat * prodN (szM l) : Nat)) : Int)
    rw [Int.natCast_mul, e, Int.mul_assoc]
theorem lclasses_v {l : Li} (h : Lm l) (hc : cnt l ≤ 600) (s) : runC false F__law_classes [.d (.lst (lD l))] s = .ok (.d (.lst (ptD (boxA [[]] (szM l))))) s := run0_d (s2 := []) (by
  have hp : prodN (szM l) ≤ 1000 := by
    have := cnt_prod l 1 h.rg
    unfold cnt at hc
    omega
  have e := compN_map (asg := nameG 1) (f := E0__law_classes) (ρ := [some (.d (.lst (lD l))), none]) (s := []) (fun d => match d with | .tup [.int a, .int b] => .int (a + b) | x => x) (lD l) (fun x hx => by
    obtain ⟨p, hp, rfl⟩ := List.mem_map.mp hx
    have i1 (s) : ixX (.d (.tup [.int p.1, .int p.2])) (.d (.int 1)) s = .ok (.d (.int p.2)) s := ix_t (j := 1) rfl
    refine ⟨_, rfl, ?_⟩
    unfold E0__law_classes
    simp [i1])
  have e2 : (lD l).map (fun d => match d with | .tup [.int a, .int b] => D.int (a + b) | x => x) = nsD (szM l) := by
    unfold lD nsD szM
    rw [List.map_map, List.map_map]
    rfl
  rw [e2] at e
  have q := box_v (sz_rg h) (by simp; have := h.len; omega) hp []
  unfold F__law_classes S__law_classes
  rw [e_body]
  unfold iterF
  simp at e q
  simp [show l.length ≤ 1000000 by have := h.len; omega, e, q]) rfl
end FL

set_option Elab.async false
set_option linter.all false
set_option maxRecDepth 100000
set_option maxHeartbeats 1000000
namespace FL
open PySem PySem.Spec PyProof.Rows L2
/-! ### points of a box -/
def InB : List Int → List Int → Prop
  | [], [] => True
  | c :: cs, z :: zs => 0 ≤ c ∧ c < z ∧ InB cs zs
  | _, _ => False
theorem box_mem : ∀ (zs : List Int) (P : List (List Int)) (pt : List Int), pt ∈ boxA P zs ↔ ∃ a ∈ P, ∃ b, pt = a ++ b ∧ InB b zs
  | [], P, pt => by
    constructor
    · exact fun h => ⟨pt, h, [], by simp, True.intro⟩
    · rintro ⟨a, ha, b, rfl, hb⟩
      cases b with
      | nil =>
        show a ++ [] ∈ P
        rw [List.append_nil]
        exact ha
      | cons _ _ => exact hb.elim
  | z :: zs, P, pt => by
    unfold boxA
    rw [box_mem zs (nextM z P) pt]
    constructor
    · rintro ⟨a, ha, b, rfl, hb⟩
      obtain ⟨q, h1, h2⟩ := List.mem_flatMap.mp ha
      obtain ⟨n, hn, rfl⟩ := List.mem_map.mp h2
      have hn' := List.mem_range.mp hn
      exact ⟨q, h1, (n : Int) :: b, by simp, by omega, by omega, hb⟩
    · rintro ⟨a, ha, b, rfl, hb⟩
      cases b with
      | nil => exact hb.elim
      | cons c b =>
        obtain ⟨h1, h2, h3⟩ := hb
        refine ⟨a ++ [c], List.mem_flatMap.mpr ⟨a, ha, List.mem_map.mpr ⟨c.toNat, List.mem_range.mpr (by omega), ?_⟩⟩, b, by simp, h3⟩
        rw [show ((c.toNat : Nat) : Int) = c by omega]
theorem box_mem1 (zs : List Int) (pt : List Int) : pt ∈ boxA [[]] zs ↔ InB pt zs := by
  rw [box_mem]
  constructor
  · rintro ⟨a, ha, b, rfl, hb⟩
    have : a = [] := by simpa using ha
    subst this
    exact hb
  · exact fun h => ⟨[], by simp, pt, rfl, h⟩
theorem inB_len : ∀ {b z : List Int}, InB b z → b.length = z.length
  | [], [], _ => rfl
  | _ :: _, _ :: _, h => by simp [inB_len h.2.2]
  | [], _ :: _, h => h.elim
  | _ :: _, [], h => h.elim
theorem inB_nn : ∀ {b z : List Int}, InB b z → ∀ x ∈ b, 0 ≤ x
  | [], [], _, x, hx => by cases hx
  | c :: cs, z :: zs, h, x, hx => by
    rcases List.mem_cons.mp hx with rfl | hx
    · exact h.1
    · exact inB_nn h.2.2 x hx
  | [], _ :: _, h, _, _ => h.elim
  | _ :: _, [], h, _, _ => h.elim
/-! ### least counts -/
theorem least_ok {p q : Int × Int} {c t : Int} (hp : Le1 p) (hq : Le1 q) (h : okP p q = true) (hc : p.1 ≤ c) (ht : 0 ≤ t) : leastM q (c + t * p.2) = leastM q c := by
  unfold okP at h
  simp at h
  obtain ⟨h1, h2⟩ := h
  obtain ⟨p1, p2, p3, p4⟩ := hp
  obtain ⟨k, hk⟩ := Int.dvd_of_emod_eq_zero h2
  have hm : 0 ≤ t * p.2 := Int.mul_nonneg ht (by omega)
  unfold leastM
  rw [if_neg (by omega), if_neg (by omega)]
  have e : c + t * p.2 - q.1 = (c - q.1) + q.2 * (t * k) := by
    rw [hk, Int.mul_left_comm]
    omega
  rw [e, Int.add_mul_emod_self_left]
theorem least_bad {p q : Int × Int} (hp : Le1 p) (hq : Le1 q) (h : okP p q = false) : leastM q (p.1 + 1 * p.2) ≠ leastM q p.1 := by
  obtain ⟨p1, p2, p3, p4⟩ := hp
  obtain ⟨q1, q2, q3, q4⟩ := hq
  rw [Int.one_mul]
  intro e
  unfold leastM at e
  by_cases h1 : p.1 < q.1
  · rw [if_pos h1] at e
    by_cases h2 : p.1 + p.2 < q.1
    · rw [if_pos h2] at e
      omega
    · rw [if_neg h2] at e
      have := Int.emod_nonneg (p.1 + p.2 - q.1) (show q.2 ≠ 0 by omega)
      omega
  · rw [if_neg h1, if_neg (by omega)] at e
    have e2 : (p.1 + p.2 - q.1) % q.2 = (p.1 - q.1) % q.2 := by omega
    have e3 : (p.1 + p.2 - q.1 - (p.1 - q.1)) % q.2 = 0 := Int.emod_eq_emod_iff_emod_sub_eq_zero.mp e2
    have e4 : p.1 + p.2 - q.1 - (p.1 - q.1) = p.2 := by omega
    rw [e4] at e3
    unfold okP at h
    simp [e3] at h
    omega
theorem red_at {B : Li} {pt : List Int} {j : Nat} {q : Int × Int} {c : Int} (h1 : B[j]? = some q) (h2 : pt[j]? = some c) : (redM B pt)[j]? = some (leastM q c) := by
  unfold redM
  rw [List.getElem?_zipWith, h1, h2]
theorem red_set {B : Li} {pt : List Int} {j : Nat} {q : Int × Int} {c v : Int} (h1 : B[j]? = some q) (h2 : pt[j]? = some c) : redM B (pt.set j v) = redM B pt ↔ leastM q v = leastM q c := by
  have hj : j < pt.length := (List.getElem?_eq_some_iff.mp h2).1
  constructor
  · intro e
    have e1 := red_at (B := B) (pt := pt.set j v) h1 (List.getElem?_set_self hj)
    rw [e, red_at h1 h2] at e1
    exact (Option.some.inj e1).symm
  · intro e
    refine List.ext_getElem? fun i => ?_
    by_cases hi : j = i
    · subst hi
      rw [red_at h1 (List.getElem?_set_self hj), red_at h1 h2, e]
    · unfold redM
      rw [List.getElem?_zipWith, List.getElem?_zipWith, List.getElem?_set_ne hi]
/-! ### refining, by places -/
theorem ref_iff : ∀ {a b : Li}, a.length = b.length → (refM a b = true ↔ ∀ (j : Nat) (p q : Int × Int), a[j]? = some p → b[j]? = some q → okP p q = true)
  | [], [], _ => ⟨fun _ j p q h => by simp at h, fun _ => rfl⟩
  | [], _ :: _, h => by cases h
  | _ :: _, [], h => by cases h
  | x :: a, y :: b, h => by
    unfold refM
    rw [Bool.and_eq_true, ref_iff (a := a) (b := b) (by simpa using h)]
    constructor
    · rintro ⟨h1, h2⟩ j p q hp hq
      cases j with
      | zero =>
        simp at hp hq
        subst hp hq
        exact h1
      | succ j => exact h2 j p q (by simpa using hp) (by simpa using hq)
    · intro h
      exact ⟨h 0 x y rfl rfl, fun j p q hp hq => h (j + 1) p q (by simpa using hp) (by simpa using hq)⟩
def badT (A B : Li) (pt : List Int) (j : Nat) (t : Int) : Bool := match A[j]?, pt[j]? with
  | some p, some c => decide (p.1 ≤ c) && !decide (redM B (pt.set j (c + t * p.2)) = redM B pt)
  | _, _ => false
def badP (A B : Li) (pt : List Int) : Bool := (List.range A.length).any fun j => badT A B pt j 1 || badT A B pt j 2
def anyB (A B : Li) : Bool := (boxA [[]] (szM A)).any (badP A B)
theorem inB_zero : ∀ (A : Li) (j : Nat) (p : Int × Int), (∀ e ∈ A, Le1 e) → A[j]? = some p → InB ((List.replicate A.length (0 : Int)).set j p.1) (szM A)
  | [], j, p, _, h => by simp at h
  | x :: A, 0, p, hA, h => by
    simp at h
    subst h
    obtain ⟨h1, h2, h3, h4⟩ := hA x (List.mem_cons_self ..)
    refine ⟨h1, by show x.1 < x.1 + x.2; omega, ?_⟩
    have key : ∀ (A : Li), (∀ e ∈ A, Le1 e) → InB (List.replicate A.length (0 : Int)) (szM A) := by
      intro A
      induction A with
      | nil => exact fun _ => True.intro
      | cons y A ih =>
        intro hA
        obtain ⟨h1, h2, h3, h4⟩ := hA y (List.mem_cons_self ..)
        exact ⟨Int.le_refl 0, by show 0 < y.1 + y.2; omega, ih fun e he => hA e (List.mem_cons_of_mem _ he)⟩
    exact key A fun e he => hA e (List.mem_cons_of_mem _ he)
  | x :: A, j + 1, p, hA, h => by
    obtain ⟨h1, h2, h3, h4⟩ := hA x (List.mem_cons_self ..)
    exact ⟨Int.le_refl 0, by show 0 < x.1 + x.2; omega, inB_zero A j p (fun e he => hA e (List.mem_cons_of_mem _ he)) (by simpa using h)⟩
/-- THE LAW: classes lie within classes exactly if the limits refine -/
theorem any_ref {A B : Li} (hA : ∀ e ∈ A, Le1 e) (hB : ∀ e ∈ B, Le1 e) (hl : A.length = B.length) : anyB A B = !refM A B := by
  cases hr : refM A B with
  | true =>
    have h := (ref_iff hl).mp hr
    show anyB A B = false
    unfold anyB
    rw [List.any_eq_false]
    intro pt hpt hb
    have hin := (box_mem1 _ _).mp hpt
    unfold badP at hb
    rw [List.any_eq_true] at hb
    obtain ⟨j, hj, hb⟩ := hb
    have hj' := List.mem_range.mp hj
    obtain ⟨p, hp⟩ : ∃ p, A[j]? = some p := ⟨_, List.getElem?_eq_getElem hj'⟩
    obtain ⟨q, hq⟩ : ∃ q, B[j]? = some q := ⟨_, List.getElem?_eq_getElem (hl ▸ hj')⟩
    have hlen := inB_len hin
    obtain ⟨c, hc⟩ : ∃ c, pt[j]? = some c := ⟨_, List.getElem?_eq_getElem (by rw [hlen, List.length_map]; exact hj')⟩
    have key : ∀ t : Int, 0 ≤ t → badT A B pt j t = false := fun t ht => by
      unfold badT
      rw [hp, hc]
      dsimp only
      by_cases h1 : p.1 ≤ c
      · have e := (red_set (v := c + t * p.2) hq hc).mpr (least_ok (hA p (List.mem_of_getElem? hp)) (hB q (List.mem_of_getElem? hq)) (h j p q hp hq) h1 ht)
        simp [e]
      · simp [h1]
    rw [key 1 (by decide), key 2 (by decide)] at hb
    cases hb
  | false =>
    show anyB A B = true
    have hn : ¬ ∀ (j : Nat) (p q : Int × Int), A[j]? = some p → B[j]? = some q → okP p q = true := fun h => by
      rw [(ref_iff hl).mpr h] at hr
      cases hr
    obtain ⟨j, hn⟩ := Classical.not_forall.mp hn
    obtain ⟨p, hn⟩ := Classical.not_forall.mp hn
    obtain ⟨q, hn⟩ := Classical.not_forall.mp hn
    obtain ⟨hp, hn⟩ := Classical.not_imp.mp hn
    obtain ⟨hq, hn⟩ := Classical.not_imp.mp hn
    have hk : okP p q = false := by
      cases e : okP p q with
      | true => exact (hn e).elim
      | false => rfl
    have hj : j < A.length := (List.getElem?_eq_some_iff.mp hp).1
    unfold anyB
    rw [List.any_eq_true]
    refine ⟨(List.replicate A.length (0 : Int)).set j p.1, (box_mem1 _ _).mpr (inB_zero A j p hA hp), ?_⟩
    unfold badP
    rw [List.any_eq_true]
    refine ⟨j, List.mem_range.mpr hj, ?_⟩
    have hc : ((List.replicate A.length (0 : Int)).set j p.1)[j]? = some p.1 := List.getElem?_set_self (by rw [List.length_replicate]; exact hj)
    have e : badT A B ((List.replicate A.length (0 : Int)).set j p.1) j 1 = true := by
      unfold badT
      rw [hp, hc]
      dsimp only
      have e := mt (red_set (v := p.1 + 1 * p.2) hq hc).mp (least_bad (hA p (List.mem_of_getElem? hp)) (hB q (List.mem_of_getElem? hq)) hk)
      rw [decide_eq_true (Int.le_refl _), decide_eq_false e]
      rfl
    rw [e]
    rfl
end FL

set_option Elab.async false
set_option linter.all false
set_option maxRecDepth 100000
set_option maxHeartbeats 1000000
namespace FL
open PySem PySem.Spec PyProof.Rows L2
theorem eqX_ns (m : Bool) (a b : List Int) (s) : eqX m (.d (.lst (nsD a))) (.d (.lst (nsD b))) s = .ok (.d (.bl (if m then !decide (a = b) else decide (a = b)))) s := by
  have it : ∀ a : List Int, intTs (nsD a) = true := fun a => by
    induction a with
    | nil => rfl
    | cons x a ih => exact ih
  have ft : ∀ a : List Int, flatS 32 (.lst (nsD a)) = true := fun a => by
    unfold flatS
    rw [List.all_eq_true]
    intro x hx
    obtain ⟨n, _, rfl⟩ := List.mem_map.mp hx
    rfl
  have bq : ∀ a b : List Int, beqDs (nsD a) (nsD b) = decide (a = b) := by
    intro a
    induction a with
    | nil => intro b; cases b <;> rfl
    | cons x a ih =>
      intro b
      cases b with
      | nil => rfl
      | cons y b =>
        show (beqD (.int x) (.int y) && beqDs (nsD a) (nsD b)) = _
        rw [ih b]
        simp only [beqD]
        by_cases h1 : x = y <;> by_cases h2 : a = b <;> simp [h1, h2]
  rw [eqX_t m s (by unfold intT; exact it a) (by unfold intT; exact it b) (ft a) (ft b)]
  simp only [beqD, bq]
@[simp] theorem e_rng2 (g ρ s) : rng2F g ρ s = (g ρ s).bind fun xs s1 => match xs with
  | [.d (.int i), .d (.int j)] => if -(2 ^ 62) ≤ i ∧ i < 2 ^ 62 ∧ -(2 ^ 62) ≤ j ∧ j < 2 ^ 62 then .ok (.d (.lst (rngD i (j - i).toNat))) s1 else .stuck
  | _ => .stuck := nr rfl
/-- what is handed in, and the limits -/
structure Pr (A B : Li) : Prop where
  a : Lm A
  b : Lm B
  len : A.length = B.length
  ca : cnt A ≤ 600
theorem lw0 {A B : Li} {pt : List Int} {j : Nat} (P : Pr A B) (hpt : InB pt (szM A)) (hj : j < A.length) (x5) (t : Int) (ht : t = 1 ∨ t = 2) :
    ∃ x5', B0__law_lies_within [some (.d (.lst (lD A))), some (.d (gO B)), some (.d (.lst (nsD pt))), some (.d (.int (j : Int))), some (.d (.int t)), x5] [] = if badT A B pt j t = true then .rt (.d (.bl false)) [] else .nx [some (.d (.lst (lD A))), some (.d (gO B)), some (.d (.lst (nsD pt))), some (.d (.int (j : Int))), some (.d (.int t)), x5'] [] := by
  have h3 := P.a.len
  have hlen : pt.length = A.length := by rw [inB_len hpt, List.length_map]
  obtain ⟨p, hp⟩ : ∃ p, A[j]? = some p := ⟨_, List.getElem?_eq_getElem hj⟩
  obtain ⟨c, hc⟩ : ∃ c, pt[j]? = some c := ⟨_, List.getElem?_eq_getElem (by omega)⟩
  obtain ⟨p1, p2, p3, p4⟩ := P.a.rg p (List.mem_of_getElem? hp)
  have c0 := inB_nn hpt c (List.mem_of_getElem? hc)
  have i1 (s) : ixX (.d (.tup [.int p.1, .int p.2])) (.d (.int 1)) s = .ok (.d (.int p.2)) s := ix_t (j := 1) rfl
  have tp : 0 ≤ t * p.2 := Int.mul_nonneg (by omega) (by omega)
  have q1 := put_v (pt := pt) (j := j) (c := c + t * p.2) (by omega) (by omega) []
  have q2 := classof_v (pt := pt.set j (c + t * p.2)) P.b (by rw [List.length_set, hlen, P.len]) (fun x hx => by
    rcases List.mem_or_eq_of_mem_set hx with h | h
    · exact inB_nn hpt x h
    · omega) []
  have q3 := classof_v (pt := pt) P.b (by rw [hlen, P.len]) (inB_nn hpt) []
  refine ⟨some (.d (.lst (nsD (pt.set j (c + t * p.2))))), ?_⟩
  unfold B0__law_lies_within badT
  rw [hp, hc]
  dsimp only
  rw [e_seq]
  simp only [e_set, e_callF, e_cons, e_nil, e_op2, e_var, g_zero, g_succ, e_b, e_bA, e_bLA, e_bL, ix_l (nsD_at hc), ix_l (lD_at hp), i1, e_lit]
  rw [e_mul2 _ _ _ _ (by unfold Bd; omega) (by unfold Bd; omega)]
  simp only [e_b, e_add, e_bA, e_bLA, e_bL, List.map_nil, List.append_nil, q1, e_bS, e_at_nx]
  by_cases h1 : p.1 ≤ c
  · by_cases h2 : redM B (pt.set j (c + t * p.2)) = redM B pt
    · simp [ix_l (nsD_at hc), ix_l (lD_at hp), h1, q2, q3, eqX_ns, h2]
      simp at q2 q3
      simp [q2, q3]
      have := eqX_ns true (redM B (pt.set j (c + t * p.2))) (redM B pt) []
      simp [h2] at this
      simp [h2, this]
    · simp [ix_l (nsD_at hc), ix_l (lD_at hp), h1]
      simp at q2 q3
      simp [q2, q3]
      have := eqX_ns true (redM B (pt.set j (c + t * p.2))) (redM B pt) []
      simp [h2] at this
      simp [h2, this]
  · simp [ix_l (nsD_at hc), ix_l (lD_at hp), h1]
end FL

set_option Elab.async false
set_option linter.all false
set_option maxRecDepth 100000
set_option maxHeartbeats 1000000
namespace FL
open PySem PySem.Spec PyProof.Rows L2
def bT (A B : Li) (pt : List Int) (j : Nat) : D → Bool
  | .int t => badT A B pt j t
  | _ => false
def bJ (A B : Li) (pt : List Int) : D → Bool
  | .int j => badT A B pt j.toNat 1 || badT A B pt j.toNat 2
  | _ => false
def unI : D → Int
  | .int i => i
  | _ => 0
def bQ (A B : Li) : D → Bool
  | .lst xs => badP A B (xs.map unI)
  | _ => false
theorem unI_ns (pt : List Int) : (nsD pt).map unI = pt := by
  rw [List.map_map]
  show pt.map (fun x => x) = pt
  simp
theorem rng2_13 : (rng2F (consA (litF (.int 1)) (consA (litF (.int 3)) nilA))) = fun _ s => Res.ok (.d (.lst (rngD 1 2))) s := by
  funext ρ s
  simp
theorem lw1 {A B : Li} {pt : List Int} {j : Nat} (P : Pr A B) (hpt : InB pt (szM A)) (hj : j < A.length) (x4 x5) :
    (bJ A B pt (.int j) = true → ∃ s', B1__law_lies_within [some (.d (.lst (lD A))), some (.d (gO B)), some (.d (.lst (nsD pt))), some (.d (.int (j : Int))), x4, x5] [] = .rt (.d (.bl false)) s' ∧ s' = []) ∧
    (bJ A B pt (.int j) = false → ∃ x4' x5', B1__law_lies_within [some (.d (.lst (lD A))), some (.d (gO B)), some (.d (.lst (nsD pt))), some (.d (.int (j : Int))), x4, x5] [] = .nx [some (.d (.lst (lD A))), some (.d (gO B)), some (.d (.lst (nsD pt))), some (.d (.int (j : Int))), x4', x5'] []) := by
  obtain ⟨k1, k2⟩ := forF_find (asg := nameG 4) (b := B0__law_lies_within) (v := .d (.bl false)) (fun ρ s => s = [] ∧ ∃ x4 x5, ρ = [some (.d (.lst (lD A))), some (.d (gO B)), some (.d (.lst (nsD pt))), some (.d (.int (j : Int))), x4, x5]) (bT A B pt j) (rngD 1 2) (ρ := [some (.d (.lst (lD A))), some (.d (gO B)), some (.d (.lst (nsD pt))), some (.d (.int (j : Int))), x4, x5]) (s := []) ⟨rfl, x4, x5, rfl⟩ (fun x hx ρ s hI => by
    obtain ⟨rfl, x4, x5, rfl⟩ := hI
    obtain ⟨t, rfl, ht⟩ : ∃ t : Int, x = .int t ∧ (t = 1 ∨ t = 2) := by
      have : x = .int 1 ∨ x = .int 2 := by
        have h : x ∈ [D.int 1, D.int 2] := hx
        simpa using h
      rcases this with rfl | rfl
      · exact ⟨1, rfl, .inl rfl⟩
      · exact ⟨2, rfl, .inr rfl⟩
    obtain ⟨x5', e⟩ := lw0 P hpt hj x5 t ht
    refine ⟨_, rfl, fun h => ?_, fun h => ?_⟩
    · have h' : badT A B pt j t = true := h
      rw [if_pos h'] at e
      exact ⟨[], e, rfl, _, _, rfl⟩
    · have h' : badT A B pt j t = false := h
      rw [h'] at e
      exact ⟨_, [], e, rfl, _, _, rfl⟩)
  have ea : (rngD 1 2).any (bT A B pt j) = bJ A B pt (.int j) := by
    show (badT A B pt j 1 || (badT A B pt j 2 || false)) = _
    unfold bJ
    simp
  rw [ea] at k1 k2
  have eb : ∀ ρ, B1__law_lies_within ρ [] = forF (nameG 4) B0__law_lies_within (rngD 1 2) ρ [] := fun ρ => by
    unfold B1__law_lies_within
    rw [e_for, rng2_13]
    rfl
  rw [eb]
  refine ⟨fun h => ?_, fun h => ?_⟩
  · obtain ⟨ρ', s', e, rfl, _⟩ := k1 h
    exact ⟨[], e, rfl⟩
  · obtain ⟨ρ', s', e, rfl, x4, x5, rfl⟩ := k2 h
    exact ⟨x4, x5, e⟩
theorem lw2 {A B : Li} {pt : List Int} (P : Pr A B) (hpt : InB pt (szM A)) (x3 x4 x5) :
    (badP A B pt = true → B2__law_lies_within [some (.d (.lst (lD A))), some (.d (gO B)), some (.d (.lst (nsD pt))), x3, x4, x5] [] = .rt (.d (.bl false)) []) ∧
    (badP A B pt = false → ∃ x3' x4' x5', B2__law_lies_within [some (.d (.lst (lD A))), some (.d (gO B)), some (.d (.lst (nsD pt))), x3, x4, x5] [] = .nx [some (.d (.lst (lD A))), some (.d (gO B)), some (.d (.lst (nsD pt))), x3', x4', x5'] []) := by
  obtain ⟨k1, k2⟩ := forF_find (asg := nameG 3) (b := B1__law_lies_within) (v := .d (.bl false)) (fun ρ s => s = [] ∧ ∃ x3 x4 x5, ρ = [some (.d (.lst (lD A))), some (.d (gO B)), some (.d (.lst (nsD pt))), x3, x4, x5]) (bJ A B pt) (rngD 0 A.length) (ρ := [some (.d (.lst (lD A))), some (.d (gO B)), some (.d (.lst (nsD pt))), x3, x4, x5]) (s := []) ⟨rfl, x3, x4, x5, rfl⟩ (fun x hx ρ s hI => by
    obtain ⟨rfl, x3, x4, x5, rfl⟩ := hI
    obtain ⟨k, hk⟩ := List.getElem?_of_mem hx
    obtain ⟨hj, rfl⟩ := rng_at hk
    rw [Int.zero_add]
    obtain ⟨m1, m2⟩ := lw1 P hpt hj x4 x5
    refine ⟨_, rfl, fun h => ?_, fun h => ?_⟩
    · obtain ⟨s', e, rfl⟩ := m1 h
      exact ⟨[], e, rfl, _, _, _, rfl⟩
    · obtain ⟨x4', x5', e⟩ := m2 h
      exact ⟨_, [], e, rfl, _, _, _, rfl⟩)
  have ea : (rngD 0 A.length).any (bJ A B pt) = badP A B pt := by
    unfold rngD badP
    rw [List.any_map]
    congr 1
    funext k
    show bJ A B pt (.int (0 + (k : Int))) = _
    rw [Int.zero_add]
    rfl
  rw [ea] at k1 k2
  have eb : ∀ r, B2__law_lies_within (some (.d (.lst (lD A))) :: r) [] = forF (nameG 3) B1__law_lies_within (rngD 0 A.length) (some (.d (.lst (lD A))) :: r) [] := fun r => by
    unfold B2__law_lies_within
    simp
    rw [e_rng _ _ (by omega) (by have := P.a.len; omega)]
    simp
  rw [eb]
  refine ⟨fun h => ?_, fun h => ?_⟩
  · obtain ⟨ρ', s', e, rfl, _⟩ := k1 h
    exact e
  · obtain ⟨ρ', s', e, rfl, x3, x4, x5, rfl⟩ := k2 h
    exact ⟨x3, x4, x5, e⟩
theorem lies_v {A B : Li} (P : Pr A B) (s) : runC false F__law_lies_within [.d (.lst (lD A)), .d (gO B)] s = .ok (.d (.bl (refM A B))) s := run0_d (s2 := []) (by
  obtain ⟨k1, k2⟩ := forF_find (asg := nameG 2) (b := B2__law_lies_within) (v := .d (.bl false)) (fun ρ s => s = [] ∧ ∃ x2 x3 x4 x5, ρ = [some (.d (.lst (lD A))), some (.d (gO B)), x2, x3, x4, x5]) (bQ A B) (ptD (boxA [[]] (szM A))) (ρ := [some (.d (.lst (lD A))), some (.d (gO B)), none, none, none, none]) (s := []) ⟨rfl, none, none, none, none, rfl⟩ (fun x hx ρ s hI => by
    obtain ⟨rfl, x2, x3, x4, x5, rfl⟩ := hI
    obtain ⟨pt, hpt, rfl⟩ := List.mem_map.mp hx
    obtain ⟨m1, m2⟩ := lw2 P ((box_mem1 _ _).mp hpt) x3 x4 x5
    have eq : bQ A B (.lst (nsD pt)) = badP A B pt := by
      show badP A B ((nsD pt).map unI) = _
      rw [unI_ns]
    refine ⟨_, rfl, fun h => ?_, fun h => ?_⟩
    · exact ⟨[], m1 (eq ▸ h), rfl, _, _, _, _, rfl⟩
    · obtain ⟨x3', x4', x5', e⟩ := m2 (eq ▸ h)
      exact ⟨_, [], e, rfl, _, _, _, _, rfl⟩)
  have ea : (ptD (boxA [[]] (szM A))).any (bQ A B) = !refM A B := by
    rw [← any_ref P.a.rg P.b.rg P.len]
    unfold anyB
    rw [List.any_map]
    congr 1
    funext pt
    show badP A B ((nsD pt).map unI) = _
    rw [unI_ns]
  rw [ea] at k1 k2
  have q := lclasses_v P.a P.ca []
  unfold F__law_lies_within S__law_lies_within
  rw [e_body]
  unfold iterF
  simp [q]
  simp at k1 k2
  cases hr : refM A B with
  | true =>
    obtain ⟨ρ', s', e, rfl, _⟩ := k2 hr
    rw [e]
    simp
  | false =>
    obtain ⟨ρ', s', e, rfl, _⟩ := k1 hr
    rw [e]
    simp) rfl
end FL

set_option Elab.async false
set_option linter.all false
set_option maxRecDepth 100000
set_option maxHeartbeats 1000000
namespace FL
open PySem PySem.Spec PyProof.Rows L2
theorem bdS {b : Int} (h1 : 1 ≤ b) (h2 : b ≤ 10000) : BdOk b 1 := by
  have hl : b.natAbs.log2 ≤ 13 := log_lt (by omega)
  refine ⟨by omega, by omega, ?_, by decide⟩
  unfold Builtin.Int.intBits
  rw [if_neg (by simp; omega)]
  have : ((b.natAbs.log2 + 1 : Nat) : Int) / 30 = 0 := Int.ediv_eq_zero_of_lt (by omega) (by omega)
  rw [this]
  rfl
/-- limits within bounds -/
def Lb (T Q : Int) (l : Li) : Prop := ∀ p ∈ l, 0 ≤ p.1 ∧ p.1 ≤ T ∧ 1 ≤ p.2 ∧ p.2 ≤ Q
def IsL (T Q : Int) (y : D) : Prop := ∃ t p, y = .tup [.int t, .int p] ∧ 0 ≤ t ∧ t ≤ T ∧ 1 ≤ p ∧ p ≤ Q
theorem isL_lD {T Q : Int} : ∀ {ys : List D}, (∀ y ∈ ys, IsL T Q y) → ∃ l, ys = lD l ∧ Lb T Q l
  | [], _ => ⟨[], rfl, (fun z hz => nomatch hz)⟩
  | y :: ys, h => by
    obtain ⟨zs, rfl, h2⟩ := isL_lD (ys := ys) (fun y hy => h y (List.mem_cons_of_mem _ hy))
    obtain ⟨t, p, rfl, h3⟩ := h y (List.mem_cons_self ..)
    refine ⟨(t, p) :: zs, rfl, fun z hz => ?_⟩
    rcases List.mem_cons.mp hz with rfl | hz
    · exact h3
    · exact h2 z hz
theorem lims_ok {n k : Nat} {o : O} {a b : Int} (hk : k ≤ 3) (ha : 0 ≤ a ∧ a ≤ 1000) (hb : 1 ≤ b ∧ b ≤ 1000) (hg : GI (n + 6) o) :
    ∃ l o', (∀ rest, runC false F__law_limits [.ref 0, .d (.int (k : Int)), .d (.int a), .d (.int b)] (o :: rest) = .ok (.d (.lst (lD l))) (o' :: rest)) ∧ l.length = k ∧ Lb a b l ∧ GI n o' := by
  obtain ⟨ys, s', e1, e2, e3, o', e4, e5⟩ := compN_st (asg := nameG 4) (f := E0__law_limits) (ρ := [some (.ref 0), some (.d (.int (k : Int))), some (.d (.int a)), some (.d (.int b)), none]) (IsL a b) (fun i s => ∃ o, s = [o] ∧ GI (n + 2 * (3 - i)) o) (rngD 0 k) 0 (s := [o]) ⟨o, rfl, hg⟩ (fun j x s hj hJ => by
    obtain ⟨o, rfl, g⟩ := hJ
    have hjt := (rng_at hj).1
    obtain ⟨r, o1, q1, h1, h2, g1⟩ := rand_r (n := n + 2 * (3 - (0 + j + 1)) + 1) (o := o) (bd := a + 1) (by
      rw [show n + 2 * (3 - (0 + j + 1)) + 1 + 1 = n + 2 * (3 - (0 + j)) by omega]
      exact g) (bdS (by omega) (by omega))
    obtain ⟨r2, o2, q2, h3, h4, g2⟩ := rand_r (n := n + 2 * (3 - (0 + j + 1))) (o := o1) (bd := b) g1 (bdS (by omega) (by omega))
    refine ⟨_, .tup [.int r, .int (1 + r2)], [o2], rfl, ?_, ⟨r, 1 + r2, rfl, h1, by omega, by omega, by omega⟩, o2, rfl, g2⟩
    unfold E0__law_limits
    simp [q1, q2])
  obtain ⟨l, rfl, h5⟩ := isL_lD e3
  have hl : l.length = k := by rw [List.length_map, rng_len] at e2; exact e2
  have g' : GI n o' := e5.le (by omega)
  refine ⟨l, o', fun rest => runG hg g' ?_ rfl, hl, h5, g'⟩
  subst e4
  show F__law_limits [.ref 0, .d (.int (k : Int)), .d (.int a), .d (.int b)] [o] = _
  unfold F__law_limits S__law_limits
  rw [e_body]
  simp
  rw [e_rng _ _ (by omega) (by omega)]
  simp
  rw [if_pos (by rw [rng_len]; omega), e1]
  simp
theorem e_setIx {fv fo fi : FE} {ρ : Env'} {s s1 : Sto} {v : D} {i j : Nat} {xs : List D} (h1 : fv ρ s = .ok (.d v) s1) (h2 : fo ρ s1 = .ok (.ref i) s1) (h3 : fi ρ s1 = .ok (.d (.int (j : Int))) s1) (h4 : s1[i]? = some (.lst xs)) (h5 : j < xs.length) : setIxS fv fo fi ρ s = .nx ρ (s1.set i (.lst (xs.set j v))) := by
  have e : ixN xs.length (j : Int) = some j := by
    unfold ixN
    rw [if_pos (by omega), if_pos (by omega)]
    rfl
  unfold setIxS
  rw [h1]
  simp
  rw [h2]
  simp
  rw [h3]
  simp [h4, e]
@[simp] theorem e_listT (xs s) : listX true [.d (.lst xs)] s = .ok (.ref s.length) (s ++ [.lst xs]) := nr rfl
theorem set_lD {l : Li} {j : Nat} {t p : Int} : (lD l).set j (.tup [.int t, .int p]) = lD (l.set j (t, p)) := by
  show _ = List.map _ _
  rw [List.map_set]
/-- the answer of a def that is handed the drawing list alone -/
theorem runG1 {F : Fn} {xs : List Xv} {rest s2 : Sto} {l : List D} {n n' : Nat} {o o' : O} {j : Nat} (g : GI n o) (g' : GI n' o') (h : F (.ref 0 :: zero xs) [o] = .ok (.ref j) (o' :: s2)) (h2 : (o' :: s2)[j]? = some (.lst l)) (hj : j ≠ 0) (h0 : refsOf xs = []) : runC false F (.ref 0 :: xs) (o :: rest) = .ok (.d (.lst l)) (o' :: rest) := by
  obtain ⟨a, b, c, rfl, _⟩ := g
  obtain ⟨a', b', c', rfl, _⟩ := g'
  unfold runC
  show (if allEq 0 (refsOf xs) = true then run1 false F (.ref 0 :: xs) 0 (gen a b c :: rest) else .stuck) = _
  rw [h0]
  rw [if_pos (by rfl)]
  unfold run1
  show (match F (.ref 0 :: zero xs) [gen a b c] with
    | .ok (.d v) s2 => match get0 s2 with | some o2 => Res.ok (.d v) ((gen a b c :: rest).set 0 o2) | none => .stuck
    | .ok (.ref j) s2 => match get0 s2 with
      | some o2 => if j = 0 then .ok (.ref 0) ((gen a b c :: rest).set 0 o2) else match s2[j]? with | some u => mkO false u ((gen a b c :: rest).set 0 o2) | none => .stuck
      | none => .stuck
    | .exc e s2 => match get0 s2 with | some o2 => .exc e ((gen a b c :: rest).set 0 o2) | none => .stuck
    | .stuck => .stuck) = _
  rw [h]
  dsimp only
  show (if j = 0 then _ else _) = _
  rw [if_neg hj, h2]
  rfl
theorem runG2 {F : Fn} {xs : List Xv} {rest s2 : Sto} {l : D} {n n' : Nat} {o o' : O} (g : GI n o) (g' : GI n' o') (h : F (.ref 0 :: zero xs) [o] = .ok (.d l) (o' :: s2)) (h0 : refsOf xs = []) : runC false F (.ref 0 :: xs) (o :: rest) = .ok (.d l) (o' :: rest) := by
  obtain ⟨a, b, c, rfl, _⟩ := g
  obtain ⟨a', b', c', rfl, _⟩ := g'
  exact run1_d h h0
theorem lb_set {T Q T' Q' : Int} {l : Li} {j : Nat} {t p : Int} (h : Lb T Q l) (hT : T ≤ T') (hQ : Q ≤ Q') (h1 : 0 ≤ t ∧ t ≤ T' ∧ 1 ≤ p ∧ p ≤ Q') : Lb T' Q' (l.set j (t, p)) := fun x hx => by
  rcases List.mem_or_eq_of_mem_set hx with hm | rfl
  · obtain ⟨k1, k2, k3, k4⟩ := h x hm
    exact ⟨k1, by omega, k3, by omega⟩
  · exact h1
theorem lb_mono {T Q T' Q' : Int} {l : Li} (h : Lb T Q l) (hT : T ≤ T') (hQ : Q ≤ Q') : Lb T' Q' l := fun x hx => by
  obtain ⟨k1, k2, k3, k4⟩ := h x hx
  exact ⟨k1, by omega, k3, by omega⟩
theorem other_ok {n : Nat} {o : O} {l : Li} {T Q : Int} (hl : l.length ≤ 3) (hT : 0 ≤ T ∧ T ≤ 900) (hQ : 1 ≤ Q ∧ Q ≤ 900) (hb : Lb T Q l) (hg : GI (n + 8) o) :
    ∃ l2 o', (∀ rest, runC false F__law_other [.ref 0, .d (.lst (lD l))] (o :: rest) = .ok (.d (.lst (lD l2))) (o' :: rest)) ∧ l2.length = l.length ∧ Lb (T + 3) (3 * Q + 6) l2 ∧ GI n o' := by
  obtain ⟨w, o1, q1, w0, w1, g1⟩ := rand_r (n := n + 7) (o := o) (bd := 5) hg bd5
  have S0 : ∀ x, F__law_other [.ref 0, .d (.lst (lD l))] [o] = x ↔ runOut (Z1__law_other [some (.ref 0), some (.d (.lst (lD l))), some (.ref 1), some (.d (.int w)), none, none, none] [o1, .lst (lD l)]) = x := fun x => by
    unfold F__law_other
    rw [e_body, z__law_other, e_seq]
    unfold Y0__law_other
    simp [q1]
  have eqn : eqX false (.d (.lst (lD l))) (.d (.lst [])) [o1, .lst (lD l)] = .ok (.d (.bl (decide (l = [])))) [o1, .lst (lD l)] := eq_lD false l [] _
  by_cases early : w = 0 ∨ l = []
  · obtain ⟨l2, o2, q2, h2, h3, g2⟩ := lims_ok (n := n + 1) (k := l.length) (a := 3) (b := 6) hl (by decide) (by decide) g1
    refine ⟨l2, o2, fun rest => runG2 (s2 := [.lst (lD l)]) hg (g2.le (show n ≤ n + 1 by omega)) ?_ rfl, h2, lb_mono h3 (by omega) (by omega), g2.le (by omega)⟩
    refine (S0 _).mpr ?_
    show runOut (seqS Y1__law_other Z2__law_other _ _) = _
    rw [e_seq]
    unfold Y1__law_other
    by_cases hw : w = 0
    · simp [hw, q2]
    · have hn : l = [] := by
        rcases early with h | h
        · exact (hw h).elim
        · exact h
      subst hn
      simp at q2
      simp [hw, eq_nn, q2]
  · have hw : w ≠ 0 := fun h => early (.inl h)
    have hn : l ≠ [] := fun h => early (.inr h)
    have hpos : 0 < l.length := List.length_pos_iff.mpr hn
    obtain ⟨r, o2, q2, r0, r1, g2⟩ := rand_r (n := n + 6) (o := o1) (bd := (l.length : Int)) g1 (bdS (by omega) (by omega))
    obtain ⟨j, rfl, hj⟩ := nat_of r0 (b := l.length) r1
    obtain ⟨p, hp⟩ : ∃ p, l[j]? = some p := ⟨_, List.getElem?_eq_getElem hj⟩
    obtain ⟨p1, p2, p3, p4⟩ := hb p (List.mem_of_getElem? hp)
    have S1 : Z1__law_other [some (.ref 0), some (.d (.lst (lD l))), some (.ref 1), some (.d (.int w)), none, none, none] [o1, .lst (lD l)] = Z4__law_other [some (.ref 0), some (.d (.lst (lD l))), some (.ref 1), some (.d (.int w)), some (.d (.int (j : Int))), some (.d (.int p.1)), some (.d (.int p.2))] [o2, .lst (lD l)] := by
      show seqS Y1__law_other Z2__law_other _ _ = _
      rw [e_seq]
      unfold Y1__law_other
      simp [hw, eqn, hn]
      show seqS Y2__law_other Z3__law_other _ _ = _
      rw [e_seq]
      unfold Y2__law_other
      simp [q2]
      show seqS Y3__law_other Z4__law_other _ _ = _
      rw [e_seq]
      unfold Y3__law_other
      simp [ix_l (lD_at hp)]
    suffices h : ∃ t' p' o3, Y4__law_other [some (.ref 0), some (.d (.lst (lD l))), some (.ref 1), some (.d (.int w)), some (.d (.int (j : Int))), some (.d (.int p.1)), some (.d (.int p.2))] [o2, .lst (lD l)] = .nx [some (.ref 0), some (.d (.lst (lD l))), some (.ref 1), some (.d (.int w)), some (.d (.int (j : Int))), some (.d (.int p.1)), some (.d (.int p.2))] [o3, .lst (lD (l.set j (t', p')))] ∧ GI n o3 ∧ 0 ≤ t' ∧ t' ≤ T + 3 ∧ 1 ≤ p' ∧ p' ≤ 3 * Q + 6 by
      obtain ⟨t', p', o3, e, g3, b1, b2, b3, b4⟩ := h
      refine ⟨l.set j (t', p'), o3, fun rest => runG1 (j := 1) (s2 := [.lst (lD (l.set j (t', p')))]) hg g3 ?_ rfl (by decide) rfl, List.length_set, lb_set hb (by omega) (by omega) ⟨b1, b2, b3, b4⟩, g3⟩
      refine (S0 _).mpr ?_
      rw [S1]
      show runOut (seqS Y4__law_other Z5__law_other _ _) = _
      rw [e_seq, e]
      unfold Z5__law_other
      simp
    have set1 : ∀ (t' p' : Int) (o3 : O), ([o3, O.lst (lD l)].set 1 (.lst ((lD l).set j (.tup [.int t', .int p'])))) = [o3, .lst (lD (l.set j (t', p')))] := fun t' p' o3 => by rw [set_lD]; rfl
    have jl : j < (lD l).length := by rw [List.length_map]; exact hj
    unfold Y4__law_other
    by_cases w1 : w = 1
    · refine ⟨p.1 + 1, p.2, o2, ?_, g2.le (by omega), by omega, by omega, by omega, by omega⟩
      simp [w1]
      rw [e_setIx (s1 := [o2, .lst (lD l)]) (v := .tup [.int (p.1 + 1), .int p.2]) (i := 1) (j := j) (xs := lD l) (by simp) (by simp) (by simp) rfl jl]
      rfl
    · by_cases w2 : w = 2
      · obtain ⟨r3, o3, q3, h3, h4, g3⟩ := rand_r (n := n + 5) (o := o2) (bd := 2) g2 (bdS (by decide) (by decide))
        have hm : 1 ≤ p.2 * (2 + r3) ∧ p.2 * (2 + r3) ≤ 3 * Q := by
          rcases (show r3 = 0 ∨ r3 = 1 by omega) with e | e <;> subst e <;> omega
        refine ⟨p.1, p.2 * (2 + r3), o3, ?_, g3.le (by omega), by omega, by omega, by omega, by omega⟩
        simp [w1, w2]
        rw [e_setIx (s1 := [o3, .lst (lD l)]) (v := .tup [.int p.1, .int (p.2 * (2 + r3))]) (i := 1) (j := j) (xs := lD l) (by
          simp [q3]
          rw [e_mul2 _ _ _ _ (by unfold Bd; omega) (by unfold Bd; omega)]
          simp) (by simp) (by simp) rfl jl]
        rfl
      · by_cases w3 : w = 3
        · refine ⟨if 0 > p.1 - 1 then 0 else p.1 - 1, p.2, o2, ?_, g2.le (by omega), by split <;> omega, by split <;> omega, by omega, by omega⟩
          simp [w1, w2, w3]
          rw [e_setIx (s1 := [o2, .lst (lD l)]) (v := .tup [.int (if 0 > p.1 - 1 then 0 else p.1 - 1), .int p.2]) (i := 1) (j := j) (xs := lD l) (by simp) (by simp) (by simp) rfl jl]
          rfl
        · obtain ⟨r3, o3, q3, h3, h4, g3⟩ := rand_r (n := n + 5) (o := o2) (bd := p.2) g2 (bdS (by omega) (by omega))
          refine ⟨p.1, 1 + r3, o3, ?_, g3.le (by omega), by omega, by omega, by omega, by omega⟩
          simp [w1, w2, w3]
          rw [e_setIx (s1 := [o3, .lst (lD l)]) (v := .tup [.int p.1, .int (1 + r3)]) (i := 1) (j := j) (xs := lD l) (by simp [q3]) (by simp) (by simp) rfl jl]
          rfl
end FL

set_option Elab.async false
set_option linter.all false
set_option maxRecDepth 100000
set_option maxHeartbeats 1000000
namespace FL
open PySem PySem.Spec PyProof.Rows L2
/-! ### the arithmetic of meetings -/
theorem mx_c (i j : Int) : mx i j = mx j i := by unfold mx; split <;> split <;> omega
theorem mx_s (i : Int) : mx i i = i := by unfold mx; split <;> rfl
theorem mx_a (i j : Int) : mx (mx i j) i = mx i j := by unfold mx; split <;> split <;> omega
theorem mx_le (i j : Int) : i ≤ mx i j ∧ j ≤ mx i j := by unfold mx; split <;> omega
theorem mx_lub {i j k : Int} (h : i ≤ k) (h2 : j ≤ k) : mx i j ≤ k := by unfold mx; split <;> omega
theorem mx_nn {i j : Int} (h : 0 ≤ i) : 0 ≤ mx i j := Int.le_trans h (mx_le i j).1
theorem lcm_c (i j : Int) : lcmI i j = lcmI j i := by unfold lcmI; rw [Nat.lcm_comm]
theorem lcm_s {i : Int} (h : 1 ≤ i) : lcmI i i = i := by
  unfold lcmI
  rw [Nat.lcm_self]
  omega
theorem lcm_a (i j : Int) : lcmI (lcmI i j) i = lcmI i j := by
  unfold lcmI
  rw [Int.natAbs_natCast, Nat.lcm_comm, ← Nat.lcm_assoc, Nat.lcm_self]
theorem lcm_b {i j a b : Int} (h : 1 ≤ i ∧ i ≤ a) (h2 : 1 ≤ j ∧ j ≤ b) : 1 ≤ lcmI i j ∧ lcmI i j ≤ a * b := by
  unfold lcmI
  have h1 : 0 < i.natAbs.lcm j.natAbs := Nat.lcm_pos (by omega) (by omega)
  have h3 : i.natAbs.lcm j.natAbs ≤ i.natAbs * j.natAbs := Nat.div_le_self _ _
  have h4 : ((i.natAbs * j.natAbs : Nat) : Int) = i * j := by
    rw [Int.natCast_mul]
    congr 1 <;> omega
  have h5 : i * j ≤ a * b := Int.mul_le_mul h.2 h2.2 (by omega) (by omega)
  omega
theorem okP_iff {x y : Int × Int} : okP x y = true ↔ y.1 ≤ x.1 ∧ x.2 % y.2 = 0 := by
  unfold okP
  simp
theorem dvd_lcmI (i j : Int) : lcmI i j % i = 0 ∧ lcmI i j % j = 0 := by
  unfold lcmI
  exact ⟨Int.emod_eq_zero_of_dvd (Int.natAbs_dvd.mp (Int.natCast_dvd_natCast.mpr (Nat.dvd_lcm_left _ _))), Int.emod_eq_zero_of_dvd (Int.natAbs_dvd.mp (Int.natCast_dvd_natCast.mpr (Nat.dvd_lcm_right _ _)))⟩
theorem lcm_lub {i j k : Int} (h : k % i = 0) (h2 : k % j = 0) : k % lcmI i j = 0 := by
  have d1 := Int.dvd_of_emod_eq_zero h
  have d2 := Int.dvd_of_emod_eq_zero h2
  refine Int.emod_eq_zero_of_dvd ?_
  unfold lcmI
  exact Int.dvd_natAbs.mp (Int.natCast_dvd_natCast.mpr (Nat.lcm_dvd (Int.natAbs_dvd_natAbs.mpr d1) (Int.natAbs_dvd_natAbs.mpr d2)))
theorem meet_comm : ∀ (a b : Li), meetM a b = meetM b a
  | [], [] => rfl
  | [], _ :: _ => rfl
  | _ :: _, [] => rfl
  | x :: a, y :: b => by
    show (mx x.1 y.1, lcmI x.2 y.2) :: meetM a b = (mx y.1 x.1, lcmI y.2 x.2) :: meetM b a
    rw [mx_c, lcm_c, meet_comm a b]
theorem meet_self : ∀ (a : Li), (∀ e ∈ a, Le1 e) → meetM a a = a
  | [], _ => rfl
  | x :: a, h => by
    show (mx x.1 x.1, lcmI x.2 x.2) :: meetM a a = x :: a
    rw [mx_s, lcm_s (h x (List.mem_cons_self ..)).2.1, meet_self a fun e he => h e (List.mem_cons_of_mem _ he)]
theorem meet_abs : ∀ (a b : Li), meetM (meetM a b) a = meetM a b
  | [], [] => rfl
  | [], _ :: _ => rfl
  | _ :: _, [] => rfl
  | x :: a, y :: b => by
    show (mx (mx x.1 y.1) x.1, lcmI (lcmI x.2 y.2) x.2) :: meetM (meetM a b) a = (mx x.1 y.1, lcmI x.2 y.2) :: meetM a b
    rw [mx_a, lcm_a, meet_abs a b]
theorem ref_self : ∀ (a : Li), refM a a = true
  | [] => rfl
  | x :: a => by
    unfold refM
    rw [ref_self a, okP_iff.mpr ⟨Int.le_refl _, Int.emod_self⟩]
    rfl
theorem ref_meet : ∀ (a b : Li), refM (meetM a b) a = true ∧ refM (meetM a b) b = true
  | [], [] => ⟨rfl, rfl⟩
  | [], _ :: _ => ⟨rfl, rfl⟩
  | _ :: _, [] => ⟨rfl, rfl⟩
  | x :: a, y :: b => by
    obtain ⟨h1, h2⟩ := ref_meet a b
    show (okP (mx x.1 y.1, lcmI x.2 y.2) x && refM (meetM a b) a) = true ∧ (okP (mx x.1 y.1, lcmI x.2 y.2) y && refM (meetM a b) b) = true
    rw [h1, h2, okP_iff.mpr ⟨(mx_le x.1 y.1).1, (dvd_lcmI x.2 y.2).1⟩, okP_iff.mpr ⟨(mx_le x.1 y.1).2, (dvd_lcmI x.2 y.2).2⟩]
    exact ⟨rfl, rfl⟩
theorem ref_lub : ∀ (m a b : Li), refM m a = true → refM m b = true → m.length = a.length → a.length = b.length → refM m (meetM a b) = true
  | [], [], [], _, _, _, _ => rfl
  | z :: m, x :: a, y :: b, h1, h2, e1, e2 => by
    unfold refM at h1 h2
    rw [Bool.and_eq_true] at h1 h2
    obtain ⟨p1, p2⟩ := okP_iff.mp h1.1
    obtain ⟨q1, q2⟩ := okP_iff.mp h2.1
    show (okP z (mx x.1 y.1, lcmI x.2 y.2) && refM m (meetM a b)) = true
    rw [ref_lub m a b h1.2 h2.2 (by simpa using e1) (by simpa using e2), okP_iff.mpr ⟨mx_lub p1 q1, lcm_lub p2 q2⟩]
    rfl
  | [], [], _ :: _, _, _, _, h => by cases h
  | [], _ :: _, _, _, _, h, _ => by cases h
  | _ :: _, [], _, _, _, h, _ => by cases h
  | _ :: _, _ :: _, [], _, _, _, h => by cases h
theorem meet_len {a b : Li} (h : a.length = b.length) : (meetM a b).length = a.length := by
  unfold meetM
  rw [List.length_zipWith]
  omega
theorem lb_lm {T Q : Int} {l : Li} (h : Lb T Q l) (hl : l.length ≤ 3) (hT : T ≤ 2000) (hQ : Q ≤ 2000) : Lm l := ⟨hl, fun p hp => by
  obtain ⟨h1, h2, h3, h4⟩ := h p hp
  exact ⟨h1, h3, by omega, by omega⟩⟩
theorem lb_meet {T Q U R : Int} : ∀ {a b : Li}, Lb T Q a → Lb U R b → T ≤ U → Lb U (Q * R) (meetM a b)
  | [], [], _, _, _ => fun p hp => by cases hp
  | [], _ :: _, _, _, _ => fun p hp => by cases hp
  | _ :: _, [], _, _, _ => fun p hp => by cases hp
  | x :: a, y :: b, h1, h2, hT => fun p hp => by
    have hp' : p ∈ (mx x.1 y.1, lcmI x.2 y.2) :: meetM a b := hp
    rcases List.mem_cons.mp hp' with rfl | hp
    · obtain ⟨p1, p2, p3, p4⟩ := h1 x (List.mem_cons_self ..)
      obtain ⟨q1, q2, q3, q4⟩ := h2 y (List.mem_cons_self ..)
      obtain ⟨k1, k2⟩ := lcm_b ⟨p3, p4⟩ ⟨q3, q4⟩
      exact ⟨mx_nn p1, mx_lub (by omega) q2, k1, k2⟩
    · exact lb_meet (fun e he => h1 e (List.mem_cons_of_mem _ he)) (fun e he => h2 e (List.mem_cons_of_mem _ he)) hT p hp
/-! ### what pair_good asks -/
theorem e_par3 {i j k : Nat} {g : FA} {ρ : Env'} {s s1 : Sto} {x y z : Xv} (h : g ρ s = .ok [x, y, z] s1) : par3S i j k g ρ s = .nx (((ρ.set i (some x)).set j (some y)).set k (some z)) s1 := by
  unfold par3S
  rw [h]
theorem tryVal_ok {sub : Nat → Nat → Bool} {ex : Nat → Bool} {k i j : Nat} {b : FS} {ρ r : Env'} {s s1 : Sto} (h : b ρ s = .nx r s1) : tryValS sub ex k i j b ρ s = .nx r s1 := by
  unfold tryValS
  rw [h]
theorem tryVal_x {sub : Nat → Nat → Bool} {ex : Nat → Bool} {k i j c : Nat} {b : FS} {ρ r : Env'} {s s1 : Sto} {d : D} (h : b ρ s = .exc (.exc c ["value"] [d]) r s1) (h2 : ex c = true ∧ i < r.length) (h3 : sub c k = true) : tryValS sub ex k i j b ρ s = .nx (((r.set i none).set j (some (.d d))).set i none) s1 := by
  unfold tryValS
  rw [h]
  dsimp only
  rw [if_pos h2, if_pos h3, getN_1]
theorem mul_41 (n : Nat) (h : n ≤ 1000) (s) : mulX false (.d (.lst [.int 41])) (.d (.int (n : Int))) s = .ok (.d (.lst (nsD (List.replicate n 41)))) s := by
  show (if -1000000 ≤ (n : Int) ∧ (n : Int) ≤ 1000000 ∧ [D.int 41].length * (n : Int).toNat ≤ 1000000 then mkL false (List.replicate (n : Int).toNat [D.int 41]).flatten s else .stuck) = _
  rw [if_pos ⟨by omega, by omega, by simp; omega⟩, rep_flat]
  simp [nsD]
@[simp] theorem perm01 {α : Type} (x y : α) : permL [0, 1] [x, y] = [x, y] := rfl
@[simp] theorem isNone_o (c ns vs n s) : isNoneX n (.d (.obj c ns vs)) (.d .non) s = .ok (.d (.bl n)) s := by cases n <;> rfl
end FL

set_option Elab.async false
set_option linter.all false
set_option maxRecDepth 100000
set_option maxHeartbeats 1000000
namespace FL
open PySem PySem.Spec PyProof.Rows L2
structure PG (A B : Li) : Prop where
  len : A.length = B.length
  le3 : A.length ≤ 3
  a : Lb 3 6 A
  b : Lb 6 24 B
  ca : cnt A ≤ 600
  cb : cnt B ≤ 600
namespace PG
variable {A B : Li} (h : PG A B)
include h
theorem la : Lm A := lb_lm h.a h.le3 (by decide) (by decide)
theorem lb : Lm B := lb_lm h.b (by rw [← h.len]; exact h.le3) (by decide) (by decide)
theorem bm : Lb 6 144 (meetM A B) := lb_meet h.a h.b (by decide)
theorem lm : Lm (meetM A B) := lb_lm h.bm (by rw [meet_len h.len]; exact h.le3) (by decide) (by decide)
theorem mt : Mt A B := ⟨h.la, h.lb, h.len, h.lm⟩
theorem mtr : Mt B A := ⟨h.lb, h.la, h.len.symm, by rw [meet_comm]; exact h.lm⟩
theorem mts : Mt A A := ⟨h.la, h.la, rfl, by rw [meet_self A h.la.rg]; exact h.la⟩
theorem mta : Mt (meetM A B) A := ⟨h.lm, h.la, meet_len h.len, by rw [meet_abs]; exact h.lm⟩
theorem pr : Pr A B := ⟨h.la, h.lb, h.len, h.ca⟩
end PG
section
variable {A B : Li} (h : PG A B) {n : Nat} {o : O}
include h
theorem pg1 : Z1__law_pair_good [some (.ref 0), some (.d (.lst (lD A))), some (.d (.lst (lD B))), some (.d (gO A)), some (.d (gO B)), none, none, none, none, none, none, none] [o]
    = Z5__law_pair_good [some (.ref 0), some (.d (.lst (lD A))), some (.d (.lst (lD B))), some (.d (gO A)), some (.d (gO B)), some (.d (.bl (refM A B))), some (.d (.lst (lD (meetM A B)))), some (.d .non), some (.d .non), none, none, none] [o] := by
  have q1 := lref_v h.le3 h.lb h.len [o]
  have q2 := refines_v h.len h.lb [o]
  have q3 := lies_v h.pr [o]
  have q4 := refines_v (a := A) rfl h.la [o]
  have q5 := eqO_v A B [o]
  have q6 : eqOX 6 F_Grid___eq__ (.d (.lst (lD A))) (.d (.lst (lD B))) [o] = .ok (.d (.bl (decide (A = B)))) [o] := eq_lD false A B [o]
  have q7 := lmeet_v h.la h.lb h.len.symm [o]
  show seqS Y1__law_pair_good Z2__law_pair_good _ _ = _
  rw [e_seq]
  unfold Y1__law_pair_good
  simp [q1]
  show seqS Y2__law_pair_good Z3__law_pair_good _ _ = _
  rw [e_seq]
  unfold Y2__law_pair_good
  simp [q2, q3]
  show seqS Y3__law_pair_good Z4__law_pair_good _ _ = _
  rw [e_seq]
  unfold Y3__law_pair_good
  simp [q4, q5, q6, ref_self]
  show seqS Y4__law_pair_good Z5__law_pair_good _ _ = _
  rw [e_seq]
  unfold Y4__law_pair_good
  rw [e_par3 (s1 := [o]) (x := .d (.lst (lD (meetM A B)))) (y := .d .non) (z := .d .non) (by simp [q7])]
  simp
theorem pg_few (hm : 600 < cnt (meetM A B)) : Z5__law_pair_good [some (.ref 0), some (.d (.lst (lD A))), some (.d (.lst (lD B))), some (.d (gO A)), some (.d (gO B)), some (.d (.bl (refM A B))), some (.d (.lst (lD (meetM A B)))), some (.d .non), some (.d .non), none, none, none] [o] = .rt (.d (.bl true)) [o] := by
  have q1 := meeting_x h.mt hm [o]
  have q2 := lmany_v h.lm [o]
  show seqS Y5__law_pair_good Z6__law_pair_good _ _ = _
  rw [e_seq]
  unfold Y5__law_pair_good
  rw [tryVal_x (c := 5) (d := .int (cnt (meetM A B))) (r := [some (.ref 0), some (.d (.lst (lD A))), some (.d (.lst (lD B))), some (.d (gO A)), some (.d (gO B)), some (.d (.bl (refM A B))), some (.d (.lst (lD (meetM A B)))), some (.d .non), some (.d .non), none, none, none]) (s1 := [o]) (by
    unfold B0__law_pair_good
    simp [q1]) ⟨rfl, by simp⟩ rfl]
  simp
  show seqS Y6__law_pair_good Z7__law_pair_good _ _ = _
  rw [e_seq]
  unfold Y6__law_pair_good
  simp [q2, hm]
theorem pg2 (hm : cnt (meetM A B) ≤ 600) : Z5__law_pair_good [some (.ref 0), some (.d (.lst (lD A))), some (.d (.lst (lD B))), some (.d (gO A)), some (.d (gO B)), some (.d (.bl (refM A B))), some (.d (.lst (lD (meetM A B)))), some (.d .non), some (.d .non), none, none, none] [o]
    = Z11__law_pair_good [some (.ref 0), some (.d (.lst (lD A))), some (.d (.lst (lD B))), some (.d (gO A)), some (.d (gO B)), some (.d (.bl (refM A B))), some (.d (.lst (lD (meetM A B)))), some (.d (gO (meetM A B))), some (.d .non), none, none, none] [o] := by
  have q1 := meeting_v h.mt hm [o]
  have q2 := lmany_v h.lm [o]
  have q3 := meeting_v h.mtr (by rw [meet_comm]; exact hm) [o]
  rw [meet_comm] at q3
  have q4 := eqO_v (meetM A B) (meetM A B) [o]
  have q5 := refines_v (meet_len h.len) h.la [o]
  have q6 := refines_v ((meet_len h.len).trans h.len) h.lb [o]
  have q7 := meeting_v h.mts (by rw [meet_self A h.la.rg]; exact h.ca) [o]
  rw [meet_self A h.la.rg] at q7
  have q8 := refines_v (a := A) rfl h.la [o]
  have q9 := meeting_v h.mta (by rw [meet_abs]; exact hm) [o]
  rw [meet_abs] at q9
  have l41 : (List.replicate A.length (41 : Int)).length = (meetM A B).length := by rw [List.length_replicate, meet_len h.len]
  have q10 := classof_v (pt := List.replicate A.length (41 : Int)) h.lm l41 (fun x hx => by have := List.eq_of_mem_replicate hx; omega) [o]
  have q11 := lclass_v h.lm l41 [o]
  have q12 := mul_41 A.length (by have := h.le3; omega) [o]
  have q13 := eqX_ns true (redM (meetM A B) (List.replicate A.length (41 : Int))) (redM (meetM A B) (List.replicate A.length (41 : Int))) [o]
  have q14 := eq_lD true A A [o]
  have q15 := eq_lD true (meetM A B) (meetM A B) [o]
  rw [(ref_meet A B).1] at q5
  rw [(ref_meet A B).2] at q6
  rw [ref_self] at q8
  show seqS Y5__law_pair_good Z6__law_pair_good _ _ = _
  rw [e_seq]
  unfold Y5__law_pair_good
  rw [tryVal_ok (r := [some (.ref 0), some (.d (.lst (lD A))), some (.d (.lst (lD B))), some (.d (gO A)), some (.d (gO B)), some (.d (.bl (refM A B))), some (.d (.lst (lD (meetM A B)))), some (.d (gO (meetM A B))), some (.d .non), none, none, none]) (s1 := [o]) (by
    unfold B0__law_pair_good
    simp [q1])]
  rw [e_at_nx]
  show seqS Y6__law_pair_good Z7__law_pair_good _ _ = _
  rw [e_seq]
  unfold Y6__law_pair_good
  simp [q2, show ¬ 600 < cnt (meetM A B) by omega]
  show seqS Y7__law_pair_good Z8__law_pair_good _ _ = _
  rw [e_seq]
  unfold Y7__law_pair_good
  simp [q15, q3, q4]
  show seqS Y8__law_pair_good Z9__law_pair_good _ _ = _
  rw [e_seq]
  unfold Y8__law_pair_good
  simp [q5, q6]
  show seqS Y9__law_pair_good Z10__law_pair_good _ _ = _
  rw [e_seq]
  unfold Y9__law_pair_good
  simp [q7, q14, q1, q15, q8]
  show seqS Y10__law_pair_good Z11__law_pair_good _ _ = _
  rw [e_seq]
  unfold Y10__law_pair_good
  simp [q12]
  simp at q10 q11 q13
  simp [q12, q10, q11, q13, q9, q4]
theorem pg3 (hg : GI (n + 8) o) (hm : cnt (meetM A B) ≤ 600) : ∃ o', Z11__law_pair_good [some (.ref 0), some (.d (.lst (lD A))), some (.d (.lst (lD B))), some (.d (gO A)), some (.d (gO B)), some (.d (.bl (refM A B))), some (.d (.lst (lD (meetM A B)))), some (.d (gO (meetM A B))), some (.d .non), none, none, none] [o] = .rt (.d (.bl true)) [o'] ∧ GI n o' := by
  obtain ⟨l2, o2, q1, h2, h3, g2⟩ := other_ok (n := n) (l := meetM A B) (T := 6) (Q := 144) (by rw [meet_len h.len]; exact h.le3) (by decide) (by decide) h.bm hg
  have hl : l2.length = A.length := h2.trans (meet_len h.len)
  have L2 : Lm l2 := lb_lm h3 (by rw [hl]; exact h.le3) (by decide) (by decide)
  have q1' := q1 []
  have q2 := lmany_v L2 [o2]
  refine ⟨o2, ?_, g2⟩
  show seqS Y11__law_pair_good Z12__law_pair_good _ _ = _
  rw [e_seq]
  unfold Y11__law_pair_good
  simp [q1']
  show seqS Y12__law_pair_good Z13__law_pair_good _ _ = _
  rw [e_seq]
  unfold Y12__law_pair_good
  by_cases hc : 600 < cnt l2
  · simp [q2, hc]
  · have q3 := lref_v (a := l2) (by rw [hl]; exact h.le3) h.la hl [o2]
    have q4 := lref_v (a := l2) (by rw [hl]; exact h.le3) h.lb (hl.trans h.len) [o2]
    simp [q2, hc]
    show seqS Y13__law_pair_good Z14__law_pair_good _ _ = _
    rw [e_seq]
    unfold Y13__law_pair_good
    by_cases r1 : refM l2 A = true
    · by_cases r2 : refM l2 B = true
      · have q5 := make_v L2 (by omega) [o2]
        have q6 := refines_v (a := l2) (b := meetM A B) h2 h.lm [o2]
        rw [ref_lub l2 A B r1 r2 hl h.len] at q6
        simp [q3, q4, r1, r2]
        unfold Z14__law_pair_good
        simp [q5, q6]
      · simp [q3, q4, r1, r2]
        unfold Z14__law_pair_good
        simp
    · simp [q3, r1]
      unfold Z14__law_pair_good
      simp
theorem pair_ok (hg : GI (n + 8) o) : ∃ o', F__law_pair_good [.ref 0, .d (.lst (lD A)), .d (.lst (lD B))] [o] = .ok (.d (.bl true)) [o'] ∧ GI n o' := by
  have q1 := make_v h.la h.ca [o]
  have q2 := make_v h.lb h.cb [o]
  have e0 : F__law_pair_good [.ref 0, .d (.lst (lD A)), .d (.lst (lD B))] [o] = runOut (Z5__law_pair_good [some (.ref 0), some (.d (.lst (lD A))), some (.d (.lst (lD B))), some (.d (gO A)), some (.d (gO B)), some (.d (.bl (refM A B))), some (.d (.lst (lD (meetM A B)))), some (.d .non), some (.d .non), none, none, none] [o]) := by
    unfold F__law_pair_good
    rw [e_body, z__law_pair_good, e_seq]
    unfold Y0__law_pair_good
    simp [q1, q2]
    rw [pg1 h]
  rw [e0]
  by_cases hm : cnt (meetM A B) ≤ 600
  · obtain ⟨o', e, g⟩ := pg3 h hg hm
    refine ⟨o', ?_, g⟩
    rw [pg2 h hm, e]
    rfl
  · refine ⟨o, ?_, hg.le (by omega)⟩
    rw [pg_few h (by omega)]
    rfl
end
end FL

set_option Elab.async false
set_option linter.all false
set_option maxRecDepth 100000
set_option maxHeartbeats 1000000
namespace FL
open PySem PySem.Spec PyProof.Rows L2
/-- the same call, wherever the object stands -/
theorem run_at {F : Fn} {xs : List Xv} {v : D} {o o' : O} {i : Nat} {s : Sto} (h : runC false F (.ref 0 :: xs) [o] = .ok (.d v) [o']) (h0 : refsOf xs = []) (hd : o ≠ .dead) (hs : s[i]? = some o) : runC false F (.ref i :: xs) s = .ok (.d v) (s.set i o') := by
  unfold runC at h ⊢
  have h1 : (if allEq 0 (refsOf xs) = true then run1 false F (.ref 0 :: xs) 0 [o] else .stuck) = .ok (.d v) [o'] := h
  show (if allEq i (refsOf xs) = true then run1 false F (.ref i :: xs) i s else .stuck) = _
  rw [h0] at h1 ⊢
  rw [if_pos (by rfl)] at h1 ⊢
  unfold run1 at h1 ⊢
  rw [hs]
  rw [show ([o] : Sto)[0]? = some o from rfl] at h1
  have e1 : zero (.ref 0 :: xs) = .ref 0 :: zero xs := rfl
  have e2 : zero (.ref i :: xs) = .ref 0 :: zero xs := rfl
  rw [e1] at h1
  rw [e2]
  cases o with
  | dead => exact (hd rfl).elim
  | lst l =>
    dsimp only at h1 ⊢
    revert h1
    cases F (.ref 0 :: zero xs) [.lst l] with
    | exc e s2 =>
      intro h1
      dsimp only at h1
      split at h1 <;> cases h1
    | stuck => exact fun h1 => by cases h1
    | ok r s2 =>
      cases r with
      | d w =>
        intro h1
        dsimp only at h1 ⊢
        split at h1
        · cases h1
          rfl
        · cases h1
      | ref j =>
        intro h1
        dsimp only at h1 ⊢
        split at h1
        · rename_i o2 ho2
          by_cases hj : j = 0
          · rw [if_pos hj] at h1
            cases h1
          · rw [if_neg hj] at h1 ⊢
            revert h1
            cases s2[j]? with
            | none => exact fun h1 => by cases h1
            | some u =>
              cases u with
              | dead => exact fun h1 => by cases h1
              | lst l2 =>
                intro h1
                cases h1
                rfl
              | ins c ns vs =>
                intro h1
                cases h1
                rfl
        · cases h1
  | ins c ns vs =>
    dsimp only at h1 ⊢
    revert h1
    cases F (.ref 0 :: zero xs) [.ins c ns vs] with
    | exc e s2 =>
      intro h1
      dsimp only at h1
      split at h1 <;> cases h1
    | stuck => exact fun h1 => by cases h1
    | ok r s2 =>
      cases r with
      | d w =>
        intro h1
        dsimp only at h1 ⊢
        split at h1
        · cases h1
          rfl
        · cases h1
      | ref j =>
        intro h1
        dsimp only at h1 ⊢
        split at h1
        · rename_i o2 ho2
          by_cases hj : j = 0
          · rw [if_pos hj] at h1
            cases h1
          · rw [if_neg hj] at h1 ⊢
            revert h1
            cases s2[j]? with
            | none => exact fun h1 => by cases h1
            | some u =>
              cases u with
              | dead => exact fun h1 => by cases h1
              | lst l2 =>
                intro h1
                cases h1
                rfl
              | ins c ns vs =>
                intro h1
                cases h1
                rfl
        · cases h1
theorem gi_nd {n : Nat} {o : O} (h : GI n o) : o ≠ .dead := by
  obtain ⟨a, b, c, rfl, _⟩ := h
  exact fun z => by cases z
@[simp] theorem at_end (s : Sto) (o : O) : (s ++ [o])[s.length]? = some o := by simp
@[simp] theorem set_end (s : Sto) (o o' : O) : (s ++ [o]).set s.length o' = s ++ [o'] := by simp
/-- .. at the end of the store -/
theorem run_end {F : Fn} {xs : List Xv} {v : D} {o o' : O} {n : Nat} {s : Sto} (h : runC false F (.ref 0 :: xs) [o] = .ok (.d v) [o']) (h0 : refsOf xs = []) (g : GI n o) : runC false F (.ref s.length :: xs) (s ++ [o]) = .ok (.d v) (s ++ [o']) := by
  rw [run_at h h0 (gi_nd g) (at_end s o), set_end]
theorem cnt_small {l : Li} (h : Lb 3 6 l) (hl : l.length ≤ 2) : cnt l ≤ 600 := by
  match l, hl with
  | [], _ => decide
  | [p], _ =>
    obtain ⟨h1, h2, h3, h4⟩ := h p (by simp)
    show 1 * (p.1 + p.2) ≤ 600
    omega
  | [p, q], _ =>
    obtain ⟨h1, h2, h3, h4⟩ := h p (by simp)
    obtain ⟨k1, k2, k3, k4⟩ := h q (by simp)
    show 1 * (p.1 + p.2) * (q.1 + q.2) ≤ 600
    have : (1 * (p.1 + p.2)) * (q.1 + q.2) ≤ 9 * 9 := Int.mul_le_mul (by omega) (by omega) (by omega) (by decide)
    omega
theorem while_v {l : Li} (h : Lb 3 6 l) (hl : l.length ≤ 3) (x0 x1 x2 x4 x5 x6 x7 x8 x9 : Option Xv) (s) : ∃ l', whileN (op2F (gtX) (callF false F__law_many [] (consA (varF 3) nilA)) (litF (.int 600))) B0_law 5 [x0, x1, x2, some (.d (.lst (lD l))), x4, x5, x6, x7, x8, x9] s = .nx [x0, x1, x2, some (.d (.lst (lD l'))), x4, x5, x6, x7, x8, x9] s ∧ Lb 3 6 l' ∧ l'.length ≤ 3 ∧ cnt l' ≤ 600 := by
  have stop : ∀ (l : Li) (n : Nat), Lb 3 6 l → l.length ≤ 3 → cnt l ≤ 600 → whileN (op2F (gtX) (callF false F__law_many [] (consA (varF 3) nilA)) (litF (.int 600))) B0_law (n + 1) [x0, x1, x2, some (.d (.lst (lD l))), x4, x5, x6, x7, x8, x9] s = .nx [x0, x1, x2, some (.d (.lst (lD l))), x4, x5, x6, x7, x8, x9] s := fun l n h hl hc => by
    have q := lmany_v (lb_lm h hl (by decide) (by decide)) s
    exact whileN_f (by simp [q, show ¬ 600 < cnt l by omega])
  by_cases hc : cnt l ≤ 600
  · exact ⟨l, stop l 4 h hl hc, h, hl, hc⟩
  · have q := lmany_v (lb_lm h hl (by decide) (by decide)) s
    have h1 : 1 ≤ l.length := by
      cases l with
      | nil => exact (hc (by decide)).elim
      | cons a b => simp
    have hb : Lb 3 6 (l.drop 1) := fun p hp => h p (List.mem_of_mem_drop hp)
    have hl2 : (l.drop 1).length ≤ 2 := by rw [List.length_drop]; omega
    have c2 := cnt_small hb hl2
    refine ⟨l.drop 1, ?_, hb, by omega, c2⟩
    have e : slX false (.d (.lst (lD l))) (.d (.int 1)) (.d .non) s = .ok (.d (.lst ((lD l).drop 1))) s := e_sl_hi_l (j := 1) s (by rw [List.length_map]; exact h1)
    rw [whileN_t (s1 := s) (s2 := s) (r := [x0, x1, x2, some (.d (.lst (lD (l.drop 1)))), x4, x5, x6, x7, x8, x9]) (by simp [q]; omega) (by
      unfold B0_law
      simp [e])]
    exact stop _ 3 hb (by omega) c2
theorem body_v (ns : List Int) {i : Nat} (hi : i < 3) (x1 x2 x3 x4 x5 x6 x7 x8 x9 : Option Xv) (s : Sto) : ∃ y2 y3 y4 s', B1_law [some (.d (.scr ns)), some (.d (.int (i : Int))), x2, x3, x4, x5, x6, x7, x8, x9] s = .nx [some (.d (.scr ns)), some (.d (.int (i : Int))), y2, y3, y4, x5, x6, x7, x8, x9] s' := by
  obtain ⟨o, q0, g0⟩ := gen_r ns hi s
  obtain ⟨k, o1, q1, k0, k1, g1⟩ := rand_r (n := 43) (o := o) (bd := 4) g0 bd4
  obtain ⟨kn, rfl, hk⟩ := nat_of k0 (b := 4) k1
  obtain ⟨l, o2, q2, l1, l2, g2⟩ := lims_ok (n := 37) (o := o1) (k := kn) (a := 3) (b := 6) (by omega) (by decide) (by decide) g1
  have e1 := run_end (s := s) (q1 false []) rfl g0
  have e2 := run_end (s := s) (q2 []) rfl g1
  obtain ⟨A, w1, w2, w3, w4⟩ := while_v l2 (by omega) (some (.d (.scr ns))) (some (.d (.int (i : Int)))) (some (.ref s.length)) x4 x5 x6 x7 x8 x9 (s ++ [o2])
  obtain ⟨B, o3, q3, b1, b2, g3⟩ := other_ok (n := 29) (o := o2) (l := A) (T := 3) (Q := 6) w3 (by decide) (by decide) w2 g2
  have e3 := run_end (s := s) (q3 []) rfl g2
  have LB : Lm B := lb_lm b2 (by omega) (by decide) (by decide)
  have e4 := lmany_v LB (s ++ [o3])
  have fin : ∃ s', (ifS (andF (op2F (leX) (callF false F__law_many [] (consA (varF 4) nilA)) (litF (.int 600))) (notF (callF false F__law_pair_good [] (consA (varF 2) (consA (varF 3) (consA (varF 4) nilA)))))) (retS (litF (.bl false))) skipS) [some (.d (.scr ns)), some (.d (.int (i : Int))), some (.ref s.length), some (.d (.lst (lD A))), some (.d (.lst (lD B))), x5, x6, x7, x8, x9] (s ++ [o3]) = .nx [some (.d (.scr ns)), some (.d (.int (i : Int))), some (.ref s.length), some (.d (.lst (lD A))), some (.d (.lst (lD B))), x5, x6, x7, x8, x9] s' := by
    by_cases hc : cnt B ≤ 600
    · have hp : PG A B := ⟨b1.symm, w3, w2, b2, w4, hc⟩
      obtain ⟨o4, q4, g4⟩ := pair_ok hp (n := 21) (o := o3) g3
      have q5 : runC false F__law_pair_good [.ref 0, .d (.lst (lD A)), .d (.lst (lD B))] [o3] = .ok (.d (.bl true)) [o4] := runG2 (s2 := []) g3 g4 q4 rfl
      have e5 := run_end (s := s) q5 rfl g3
      refine ⟨s ++ [o4], ?_⟩
      simp [e4, hc, e5]
    · refine ⟨s ++ [o3], ?_⟩
      simp [e4, show ¬ cnt B ≤ 600 from hc]
  obtain ⟨s', fin⟩ := fin
  refine ⟨some (.ref s.length), some (.d (.lst (lD A))), some (.d (.lst (lD B))), s', ?_⟩
  unfold B1_law
  refine seq_go (r := [some (.d (.scr ns)), some (.d (.int (i : Int))), some (.ref s.length), x3, x4, x5, x6, x7, x8, x9]) (s2 := s ++ [o]) (by simp [q0]) ?_
  refine seq_go (r := [some (.d (.scr ns)), some (.d (.int (i : Int))), some (.ref s.length), some (.d (.lst (lD l))), x4, x5, x6, x7, x8, x9]) (s2 := s ++ [o2]) (by simp [e1, e2]) ?_
  refine seq_go (r := [some (.d (.scr ns)), some (.d (.int (i : Int))), some (.ref s.length), some (.d (.lst (lD A))), x4, x5, x6, x7, x8, x9]) (s2 := s ++ [o2]) (by rw [e_while]; exact w1) ?_
  exact seq_go (r := [some (.d (.scr ns)), some (.d (.int (i : Int))), some (.ref s.length), some (.d (.lst (lD A))), some (.d (.lst (lD B))), x5, x6, x7, x8, x9]) (s2 := s ++ [o3]) (by simp [e3]) fin
theorem law_ok (ns : List Int) : ∃ s, F_law [.d (.scr ns)] [] = .ok (.d (.bl true)) s := by
  obtain ⟨ρ', s', l, x1, x2, x3, x4, x5, x6, x7, x8, x9, rfl⟩ := forF_inv (asg := nameG 1) (b := B1_law) (fun i ρ s => ∃ x1 x2 x3 x4 x5 x6 x7 x8 x9 : Option Xv, ρ = [some (.d (.scr ns)), x1, x2, x3, x4, x5, x6, x7, x8, x9]) (rngD 0 3) 0 (ρ := [some (.d (.scr ns)), none, none, none, none, none, none, none, none, none]) (s := []) ⟨none, none, none, none, none, none, none, none, none, rfl⟩ (fun i x ρ s hi hI => by
    obtain ⟨hi3, rfl⟩ := rng_at hi
    rw [Int.zero_add]
    obtain ⟨x1, x2, x3, x4, x5, x6, x7, x8, x9, rfl⟩ := hI
    obtain ⟨y2, y3, y4, s', e⟩ := body_v ns hi3 x1 x2 x3 x4 x5 x6 x7 x8 x9 s
    exact ⟨_, _, s', rfl, e, _, _, _, _, _, _, _, _, _, rfl⟩)
  refine ⟨s', ?_⟩
  have fin := tail_v (some (.d (.scr ns))) x1 x2 x3 x4 x5 x6 x7 x8 x9 s'
  unfold F_law
  rw [e_body, z_law]
  show runOut (seqS Y0_law Z1_law [some (.d (.scr ns)), none, none, none, none, none, none, none, none, none] []) = _
  rw [seq_go (r := [some (.d (.scr ns)), x1, x2, x3, x4, x5, x6, x7, x8, x9]) (s2 := s') (by
    unfold Y0_law
    simp
    rw [e_rng _ _ (by decide) (by decide)]
    simp
    exact l) fin]
  rfl
end FL

set_option Elab.async false
set_option linter.all false
set_option maxRecDepth 100000
set_option maxHeartbeats 4000000
namespace FL
open PySem PySem.Spec PyProof.Rows L2
theorem law_fin {P : Program} {w : World} {K : PySem.W.Frag} {mg : Str → Option Value} {h : Heap} {ct : Nat → Addr} {f_is_whole f_is_between f_are_counts f_is_point f_check_point f_is_limit f_class_count f_least_count f_reduced f_meeting_limits f_Grid___init__ f_Grid_many f_Grid_limits f_Grid___eq__ f_check_grid f_check_two_grids f_class_of f_limits_refine f_refines f_meeting f__law_hash f__law_random f__law_generator f__law_limits f__law_box f__law_classes f__law_least f__law_class f__law_yes f__law_gcd f__law_lcm f__law_put_at f__law_many f__law_other f__law_refines f__law_meeting f__law_lies_within f__law_pair_good f__law_caught f_law lawA : Addr} (X : K.In h) (G : h.Ns mainGlobals mg) (B : Tb P K mg ct) (hl : mg "law" = some (.ref lawA))
    (mk_Grid : PySem.W.makesIn K (ct 6) = true) (kp_Grid : PySem.W.keepIn K (.ref (ct 6)) = true) (nf_Grid : ∀ t ∈ knownT, PySem.W.notFirst K (ct 6) (.type t) = true)
    (a_is_whole : FnF K "is_whole" (top 10) f_is_whole)
    (a_is_between : FnF K "is_between" (top 11) f_is_between)
    (a_are_counts : FnF K "are_counts" (top 12) f_are_counts)
    (a_is_point : FnF K "is_point" (top 13) f_is_point)
    (a_check_point : FnF K "check_point" (top 14) f_check_point)
    (a_is_limit : FnF K "is_limit" (top 17) f_is_limit)
    (a_class_count : FnF K "class_count" (top 18) f_class_count)
    (a_least_count : FnF K "least_count" (top 19) f_least_count)
    (a_reduced : FnF K "reduced" (top 20) f_reduced)
    (a_meeting_limits : FnF K "meeting_limits" (top 21) f_meeting_limits)
    (a_Grid___init__ : MeF K (ct 6) "__init__" "Grid.__init__" (mth 22 0) f_Grid___init__)
    (a_Grid_many : MeF K (ct 6) "many" "Grid.many" (mth 22 1) f_Grid_many)
    (a_Grid_limits : MeF K (ct 6) "limits" "Grid.limits" (mth 22 2) f_Grid_limits)
    (a_Grid___eq__ : MeF K (ct 6) "__eq__" "Grid.__eq__" (mth 22 3) f_Grid___eq__)
    (a_check_grid : FnF K "check_grid" (top 23) f_check_grid)
    (a_check_two_grids : FnF K "check_two_grids" (top 24) f_check_two_grids)
    (a_class_of : FnF K "class_of" (top 25) f_class_of)
    (a_limits_refine : FnF K "limits_refine" (top 26) f_limits_refine)
    (a_refines : FnF K "refines" (top 27) f_refines)
    (a_meeting : FnF K "meeting" (top 28) f_meeting)
    (a__law_hash : FnF K "_law_hash" (top 30) f__law_hash)
    (a__law_random : FnF K "_law_random" (top 31) f__law_random)
    (a__law_generator : FnF K "_law_generator" (top 32) f__law_generator)
    (a__law_limits : FnF K "_law_limits" (top 33) f__law_limits)
    (a__law_box : FnF K "_law_box" (top 34) f__law_box)
    (a__law_classes : FnF K "_law_classes" (top 35) f__law_classes)
    (a__law_least : FnF K "_law_least" (top 36) f__law_least)
    (a__law_class : FnF K "_law_class" (top 37) f__law_class)
    (a__law_yes : FnF K "_law_yes" (top 38) f__law_yes)
    (a__law_gcd : FnF K "_law_gcd" (top 39) f__law_gcd)
    (a__law_lcm : FnF K "_law_lcm" (top 40) f__law_lcm)
    (a__law_put_at : FnF K "_law_put_at" (top 41) f__law_put_at)
    (a__law_many : FnF K "_law_many" (top 42) f__law_many)
    (a__law_other : FnF K "_law_other" (top 43) f__law_other)
    (a__law_refines : FnF K "_law_refines" (top 44) f__law_refines)
    (a__law_meeting : FnF K "_law_meeting" (top 45) f__law_meeting)
    (a__law_lies_within : FnF K "_law_lies_within" (top 46) f__law_lies_within)
    (a__law_pair_good : FnF K "_law_pair_good" (top 47) f__law_pair_good)
    (a__law_caught : FnF K "_law_caught" (top 48) f__law_caught)
    (a_law : FnF K "law" (top 49) f_law)
    : ∃ (T : Tx) (fd : FuncData), T.K = K ∧ (∀ (s : Shared) (u : Value), BindsTo s fd ⟨[u], []⟩ [("_law_script", u)]) ∧ ∀ base : Heap, K.In base → base.Ns mainGlobals mg → FnG P w K mg base 9 lawA fd ["_law_script"] (spF T 1 F_law) := by
  have hD_is_whole : ∀ base : Heap, Def (tx K ct) P w K mg base 1 "is_whole" ["value"] [] F_is_whole := fun base => def_mk a_is_whole (PySem.W.mg_of X G a_is_whole.ns) sc_is_whole rfl (fun _ _ _ _ _ _ us hl => match us, hl with | [_], _ => rfl) (fun q W hr tk hp => b_is_whole B  q W hr tk hp)
  have hD_is_between : ∀ base : Heap, Def (tx K ct) P w K mg base 2 "is_between" ["value", "low", "high"] [] F_is_between := fun base => def_mk a_is_between (PySem.W.mg_of X G a_is_between.ns) sc_is_between rfl (fun _ _ _ _ _ _ us hl => match us, hl with | [_, _, _], _ => rfl) (fun q W hr tk hp => b_is_between B (hD_is_whole base) q W hr tk hp)
  have hD_are_counts : ∀ base : Heap, Def (tx K ct) P w K mg base 3 "are_counts" ["items"] [] F_are_counts := fun base => def_mk a_are_counts (PySem.W.mg_of X G a_are_counts.ns) sc_are_counts rfl (fun _ _ _ _ _ _ us hl => match us, hl with | [_], _ => rfl) (fun q W hr tk hp => b_are_counts B (hD_is_between base) q W hr tk hp)
  have hD_is_point : ∀ base : Heap, Def (tx K ct) P w K mg base 4 "is_point" ["many", "value"] [] F_is_point := fun base => def_mk a_is_point (PySem.W.mg_of X G a_is_point.ns) sc_is_point rfl (fun _ _ _ _ _ _ us hl => match us, hl with | [_, _], _ => rfl) (fun q W hr tk hp => b_is_point B (hD_are_counts base) q W hr tk hp)
  have hD_check_point : ∀ base : Heap, Def (tx K ct) P w K mg base 5 "check_point" ["many", "point"] [] F_check_point := fun base => def_mk a_check_point (PySem.W.mg_of X G a_check_point.ns) sc_check_point rfl (fun _ _ _ _ _ _ us hl => match us, hl with | [_, _], _ => rfl) (fun q W hr tk hp => b_check_point B (hD_is_point base) q W hr tk hp)
  have hD_is_limit : ∀ base : Heap, Def (tx K ct) P w K mg base 3 "is_limit" ["value"] [] F_is_limit := fun base => def_mk a_is_limit (PySem.W.mg_of X G a_is_limit.ns) sc_is_limit rfl (fun _ _ _ _ _ _ us hl => match us, hl with | [_], _ => rfl) (fun q W hr tk hp => b_is_limit B (hD_is_between base) q W hr tk hp)
  have hD_class_count : ∀ base : Heap, Def (tx K ct) P w K mg base 1 "class_count" ["limits"] [] F_class_count := fun base => def_mk a_class_count (PySem.W.mg_of X G a_class_count.ns) sc_class_count rfl (fun _ _ _ _ _ _ us hl => match us, hl with | [_], _ => rfl) (fun q W hr tk hp => b_class_count B  q W hr tk hp)
  have hD_least_count : ∀ base : Heap, Def (tx K ct) P w K mg base 1 "least_count" ["limit", "count"] [] F_least_count := fun base => def_mk a_least_count (PySem.W.mg_of X G a_least_count.ns) sc_least_count rfl (fun _ _ _ _ _ _ us hl => match us, hl with | [_, _], _ => rfl) (fun q W hr tk hp => b_least_count B  q W hr tk hp)
  have hD_reduced : ∀ base : Heap, Def (tx K ct) P w K mg base 2 "reduced" ["limits", "point"] [] F_reduced := fun base => def_mk a_reduced (PySem.W.mg_of X G a_reduced.ns) sc_reduced rfl (fun _ _ _ _ _ _ us hl => match us, hl with | [_, _], _ => rfl) (fun q W hr tk hp => b_reduced B (hD_least_count base) q W hr tk hp)
  have hD_meeting_limits : ∀ base : Heap, Def (tx K ct) P w K mg base 1 "meeting_limits" ["one", "other"] [] F_meeting_limits := fun base => def_mk a_meeting_limits (PySem.W.mg_of X G a_meeting_limits.ns) sc_meeting_limits rfl (fun _ _ _ _ _ _ us hl => match us, hl with | [_, _], _ => rfl) (fun q W hr tk hp => b_meeting_limits B  q W hr tk hp)
  have hM_Grid___init__ : ∀ base : Heap, DefM (tx K ct) P w K mg base 4 "Grid" 6 ["self", "limits"] [] F_Grid___init__ := fun base => defM_mk a_Grid___init__ B.m_Grid mk_Grid kp_Grid sc_Grid___init__ rfl (fun _ _ _ _ _ _ us hl => match us, hl with | [_, _], _ => rfl) (fun q W hr tk hp => b_Grid___init__ B (hD_is_limit base) (hD_class_count base) q W hr tk hp)
  have hO_Grid_many : ∀ base : Heap, DefO (tx K ct) P w K mg base 1 6 "many" ["self"] [] F_Grid_many := fun base => defO_mk a_Grid_many (B.txo.ow 6 (show 6 < nC by decide) rfl).cl sc_Grid_many rfl (fun _ _ _ _ _ _ us hl => match us, hl with | [_], _ => rfl) (fun q W hr tk hp => b_Grid_many B  q W hr tk hp)
  have hO_Grid_limits : ∀ base : Heap, DefO (tx K ct) P w K mg base 1 6 "limits" ["self"] [] F_Grid_limits := fun base => defO_mk a_Grid_limits (B.txo.ow 6 (show 6 < nC by decide) rfl).cl sc_Grid_limits rfl (fun _ _ _ _ _ _ us hl => match us, hl with | [_], _ => rfl) (fun q W hr tk hp => b_Grid_limits B  q W hr tk hp)
  have hE_Grid___eq__ : ∀ base : Heap, TxEq (tx K ct) P w K mg base 1 6 F_Grid___eq__ := fun base => defE_mk a_Grid___eq__ nf_Grid (B.txo.ow 6 (show 6 < nC by decide) rfl) sc_Grid___eq__ rfl rfl (fun _ _ _ _ _ _ us hl => match us, hl with | [_, _], _ => rfl) (fun q W hr tk hp => b_Grid___eq__ B  q W hr tk hp)
  have hD_check_grid : ∀ base : Heap, Def (tx K ct) P w K mg base 1 "check_grid" ["grid"] [] F_check_grid := fun base => def_mk a_check_grid (PySem.W.mg_of X G a_check_grid.ns) sc_check_grid rfl (fun _ _ _ _ _ _ us hl => match us, hl with | [_], _ => rfl) (fun q W hr tk hp => b_check_grid B  q W hr tk hp)
  have hD_check_two_grids : ∀ base : Heap, Def (tx K ct) P w K mg base 2 "check_two_grids" ["one", "other"] [] F_check_two_grids := fun base => def_mk a_check_two_grids (PySem.W.mg_of X G a_check_two_grids.ns) sc_check_two_grids rfl (fun _ _ _ _ _ _ us hl => match us, hl with | [_, _], _ => rfl) (fun q W hr tk hp => b_check_two_grids B (hD_check_grid base) (hO_Grid_many base) q W hr tk hp)
  have hD_class_of : ∀ base : Heap, Def (tx K ct) P w K mg base 6 "class_of" ["grid", "point"] [] F_class_of := fun base => def_mk a_class_of (PySem.W.mg_of X G a_class_of.ns) sc_class_of rfl (fun _ _ _ _ _ _ us hl => match us, hl with | [_, _], _ => rfl) (fun q W hr tk hp => b_class_of B (hD_check_grid base) (hD_check_point base) (hO_Grid_many base) (hD_reduced base) (hO_Grid_limits base) q W hr tk hp)
  have hD_limits_refine : ∀ base : Heap, Def (tx K ct) P w K mg base 1 "limits_refine" ["one", "other"] [] F_limits_refine := fun base => def_mk a_limits_refine (PySem.W.mg_of X G a_limits_refine.ns) sc_limits_refine rfl (fun _ _ _ _ _ _ us hl => match us, hl with | [_, _], _ => rfl) (fun q W hr tk hp => b_limits_refine B  q W hr tk hp)
  have hD_refines : ∀ base : Heap, Def (tx K ct) P w K mg base 3 "refines" ["one", "other"] [] F_refines := fun base => def_mk a_refines (PySem.W.mg_of X G a_refines.ns) sc_refines rfl (fun _ _ _ _ _ _ us hl => match us, hl with | [_, _], _ => rfl) (fun q W hr tk hp => b_refines B (hD_check_two_grids base) (hD_limits_refine base) (hO_Grid_limits base) q W hr tk hp)
  have hDK_refines_0 : ∀ base : Heap, DefK (tx K ct) P w K mg base 3 "refines" ["one", "other"] ["one", "other"] [0, 1] F_refines := fun base => defK_mk a_refines (PySem.W.mg_of X G a_refines.ns) sc_refines rfl (fun _ _ _ _ _ _ ws hl => match ws, hl with | [_, _], _ => rfl) (fun q W hr tk hp => b_refines B (hD_check_two_grids base) (hD_limits_refine base) (hO_Grid_limits base) q W hr tk hp)
  have hD_meeting : ∀ base : Heap, Def (tx K ct) P w K mg base 6 "meeting" ["one", "other"] [] F_meeting := fun base => def_mk a_meeting (PySem.W.mg_of X G a_meeting.ns) sc_meeting rfl (fun _ _ _ _ _ _ us hl => match us, hl with | [_, _], _ => rfl) (fun q W hr tk hp => b_meeting B (hD_check_two_grids base) (hM_Grid___init__ base) (hD_meeting_limits base) (hO_Grid_limits base) q W hr tk hp)
  have hDK_meeting_0 : ∀ base : Heap, DefK (tx K ct) P w K mg base 6 "meeting" ["one", "other"] ["one", "other"] [0, 1] F_meeting := fun base => defK_mk a_meeting (PySem.W.mg_of X G a_meeting.ns) sc_meeting rfl (fun _ _ _ _ _ _ ws hl => match ws, hl with | [_, _], _ => rfl) (fun q W hr tk hp => b_meeting B (hD_check_two_grids base) (hM_Grid___init__ base) (hD_meeting_limits base) (hO_Grid_limits base) q W hr tk hp)
  have hD__law_hash : ∀ base : Heap, Def (tx K ct) P w K mg base 1 "_law_hash" ["_law_seed", "_law_index"] [] F__law_hash := fun base => def_mk a__law_hash (PySem.W.mg_of X G a__law_hash.ns) sc__law_hash rfl (fun _ _ _ _ _ _ us hl => match us, hl with | [_, _], _ => rfl) (fun q W hr tk hp => b__law_hash B  q W hr tk hp)
  have hD__law_random : ∀ base : Heap, Def (tx K ct) P w K mg base 2 "_law_random" ["_law_generator_here", "_law_bound"] [] F__law_random := fun base => def_mk a__law_random (PySem.W.mg_of X G a__law_random.ns) sc__law_random rfl (fun _ _ _ _ _ _ us hl => match us, hl with | [_, _], _ => rfl) (fun q W hr tk hp => b__law_random B (hD__law_hash base) q W hr tk hp)
  have hD__law_generator : ∀ base : Heap, Def (tx K ct) P w K mg base 1 "_law_generator" ["_law_script", "_law_index"] [] F__law_generator := fun base => def_mk a__law_generator (PySem.W.mg_of X G a__law_generator.ns) sc__law_generator rfl (fun _ _ _ _ _ _ us hl => match us, hl with | [_, _], _ => rfl) (fun q W hr tk hp => b__law_generator B  q W hr tk hp)
  have hD__law_limits : ∀ base : Heap, Def (tx K ct) P w K mg base 3 "_law_limits" ["_law_generator_here", "_law_many_here", "_law_least_here", "_law_most"] [] F__law_limits := fun base => def_mk a__law_limits (PySem.W.mg_of X G a__law_limits.ns) sc__law_limits rfl (fun _ _ _ _ _ _ us hl => match us, hl with | [_, _, _, _], _ => rfl) (fun q W hr tk hp => b__law_limits B (hD__law_random base) q W hr tk hp)
  have hD__law_box : ∀ base : Heap, Def (tx K ct) P w K mg base 1 "_law_box" ["_law_sizes"] [] F__law_box := fun base => def_mk a__law_box (PySem.W.mg_of X G a__law_box.ns) sc__law_box rfl (fun _ _ _ _ _ _ us hl => match us, hl with | [_], _ => rfl) (fun q W hr tk hp => b__law_box B  q W hr tk hp)
  have hD__law_classes : ∀ base : Heap, Def (tx K ct) P w K mg base 2 "_law_classes" ["_law_limits_here"] [] F__law_classes := fun base => def_mk a__law_classes (PySem.W.mg_of X G a__law_classes.ns) sc__law_classes rfl (fun _ _ _ _ _ _ us hl => match us, hl with | [_], _ => rfl) (fun q W hr tk hp => b__law_classes B (hD__law_box base) q W hr tk hp)
  have hD__law_least : ∀ base : Heap, Def (tx K ct) P w K mg base 1 "_law_least" ["_law_limit", "_law_count"] [] F__law_least := fun base => def_mk a__law_least (PySem.W.mg_of X G a__law_least.ns) sc__law_least rfl (fun _ _ _ _ _ _ us hl => match us, hl with | [_, _], _ => rfl) (fun q W hr tk hp => b__law_least B  q W hr tk hp)
  have hD__law_class : ∀ base : Heap, Def (tx K ct) P w K mg base 2 "_law_class" ["_law_limits_here", "_law_point"] [] F__law_class := fun base => def_mk a__law_class (PySem.W.mg_of X G a__law_class.ns) sc__law_class rfl (fun _ _ _ _ _ _ us hl => match us, hl with | [_, _], _ => rfl) (fun q W hr tk hp => b__law_class B (hD__law_least base) q W hr tk hp)
  have hD__law_yes : ∀ base : Heap, Def (tx K ct) P w K mg base 1 "_law_yes" ["_law_told", "_law_due"] [] F__law_yes := fun base => def_mk a__law_yes (PySem.W.mg_of X G a__law_yes.ns) sc__law_yes rfl (fun _ _ _ _ _ _ us hl => match us, hl with | [_, _], _ => rfl) (fun q W hr tk hp => b__law_yes B  q W hr tk hp)
  have hD__law_gcd : ∀ base : Heap, Def (tx K ct) P w K mg base 1 "_law_gcd" ["_law_one", "_law_other_here"] [] F__law_gcd := fun base => def_mk a__law_gcd (PySem.W.mg_of X G a__law_gcd.ns) sc__law_gcd rfl (fun _ _ _ _ _ _ us hl => match us, hl with | [_, _], _ => rfl) (fun q W hr tk hp => b__law_gcd B  q W hr tk hp)
  have hD__law_lcm : ∀ base : Heap, Def (tx K ct) P w K mg base 2 "_law_lcm" ["_law_one", "_law_other_here"] [] F__law_lcm := fun base => def_mk a__law_lcm (PySem.W.mg_of X G a__law_lcm.ns) sc__law_lcm rfl (fun _ _ _ _ _ _ us hl => match us, hl with | [_, _], _ => rfl) (fun q W hr tk hp => b__law_lcm B (hD__law_gcd base) q W hr tk hp)
  have hD__law_put_at : ∀ base : Heap, Def (tx K ct) P w K mg base 1 "_law_put_at" ["_law_point", "_law_at", "_law_count"] [] F__law_put_at := fun base => def_mk a__law_put_at (PySem.W.mg_of X G a__law_put_at.ns) sc__law_put_at rfl (fun _ _ _ _ _ _ us hl => match us, hl with | [_, _, _], _ => rfl) (fun q W hr tk hp => b__law_put_at B  q W hr tk hp)
  have hD__law_many : ∀ base : Heap, Def (tx K ct) P w K mg base 1 "_law_many" ["_law_limits_here"] [] F__law_many := fun base => def_mk a__law_many (PySem.W.mg_of X G a__law_many.ns) sc__law_many rfl (fun _ _ _ _ _ _ us hl => match us, hl with | [_], _ => rfl) (fun q W hr tk hp => b__law_many B  q W hr tk hp)
  have hD__law_other : ∀ base : Heap, Def (tx K ct) P w K mg base 4 "_law_other" ["_law_generator_here", "_law_limits_here"] [] F__law_other := fun base => def_mk a__law_other (PySem.W.mg_of X G a__law_other.ns) sc__law_other rfl (fun _ _ _ _ _ _ us hl => match us, hl with | [_, _], _ => rfl) (fun q W hr tk hp => b__law_other B (hD__law_random base) (hD__law_limits base) q W hr tk hp)
  have hD__law_refines : ∀ base : Heap, Def (tx K ct) P w K mg base 1 "_law_refines" ["_law_one", "_law_other_here"] [] F__law_refines := fun base => def_mk a__law_refines (PySem.W.mg_of X G a__law_refines.ns) sc__law_refines rfl (fun _ _ _ _ _ _ us hl => match us, hl with | [_, _], _ => rfl) (fun q W hr tk hp => b__law_refines B  q W hr tk hp)
  have hD__law_meeting : ∀ base : Heap, Def (tx K ct) P w K mg base 3 "_law_meeting" ["_law_one", "_law_other_here"] [] F__law_meeting := fun base => def_mk a__law_meeting (PySem.W.mg_of X G a__law_meeting.ns) sc__law_meeting rfl (fun _ _ _ _ _ _ us hl => match us, hl with | [_, _], _ => rfl) (fun q W hr tk hp => b__law_meeting B (hD__law_lcm base) q W hr tk hp)
  have hD__law_lies_within : ∀ base : Heap, Def (tx K ct) P w K mg base 7 "_law_lies_within" ["_law_limits_here", "_law_other_here"] [] F__law_lies_within := fun base => def_mk a__law_lies_within (PySem.W.mg_of X G a__law_lies_within.ns) sc__law_lies_within rfl (fun _ _ _ _ _ _ us hl => match us, hl with | [_, _], _ => rfl) (fun q W hr tk hp => b__law_lies_within B (hD__law_classes base) (hD__law_put_at base) (hD_class_of base) q W hr tk hp)
  have hD__law_pair_good : ∀ base : Heap, Def (tx K ct) P w K mg base 8 "_law_pair_good" ["_law_generator_here", "_law_one", "_law_other_here"] [] F__law_pair_good := fun base => def_mk a__law_pair_good (PySem.W.mg_of X G a__law_pair_good.ns) sc__law_pair_good rfl (fun _ _ _ _ _ _ us hl => match us, hl with | [_, _, _], _ => rfl) (fun q W hr tk hp => b__law_pair_good B (hM_Grid___init__ base) (hD__law_refines base) (hD__law_yes base) (hD_refines base) (hD__law_lies_within base) (hE_Grid___eq__ base) (hD__law_meeting base) (hD_meeting base) (hD__law_many base) (hO_Grid_limits base) (hDK_meeting_0 base) (hDK_refines_0 base) (hD_class_of base) (hD__law_class base) (hD__law_other base) q W hr tk hp)
  have hD__law_caught : ∀ base : Heap, Def (tx K ct) P w K mg base 7 "_law_caught" ["_law_which", "_law_one", "_law_other_here"] [] F__law_caught := fun base => def_mk a__law_caught (PySem.W.mg_of X G a__law_caught.ns) sc__law_caught rfl (fun _ _ _ _ _ _ us hl => match us, hl with | [_, _, _], _ => rfl) (fun q W hr tk hp => b__law_caught B (hD_refines base) (hD_meeting base) q W hr tk hp)
  have e := (PySem.W.mg_of X G a_law.ns).symm.trans hl
  cases e
  obtain ⟨fd, D⟩ := a_law.fn
  refine ⟨tx K ct, fd, rfl, fun s u => D.bindsA (ps := ["_law_script"]) (fun _ _ _ _ _ _ us hl => match us, hl with | [_], _ => rfl) s [u] rfl, fun base _ _ => ?_⟩
  exact fn_mk2 (T := tx K ct) D sc_law fun q W hr tk hp => b_law B (hD__law_generator base) (hD__law_limits base) (hD__law_random base) (hD__law_many base) (hD__law_other base) (hD__law_pair_good base) (hM_Grid___init__ base) (hE_Grid___eq__ base) (hD__law_caught base) (hO_Grid_limits base) (hD_meeting base) q W hr tk hp
end FL

set_option Elab.async false
set_option linter.all false
set_option maxRecDepth 100000
set_option maxHeartbeats 4000000
namespace FL
open PySem PySem.Spec PyProof.Rows L2
def ctF (C0 C1 C2 C3 C4 C5 C6 : Addr) : Nat → Addr
  | 0 => C0
  | 1 => C1
  | 2 => C2
  | 3 => C3
  | 4 => C4
  | 5 => C5
  | _ => C6
theorem ltC {c : Nat} (h : c < 7) : c = 0 ∨ c = 1 ∨ c = 2 ∨ c = 3 ∨ c = 4 ∨ c = 5 ∨ c = 6 := by omega
theorem ltE {c : Nat} (h : c < 6) : c = 0 ∨ c = 1 ∨ c = 2 ∨ c = 3 ∨ c = 4 ∨ c = 5 := by omega
theorem isO {c : Nat} (h : ownB c = true) : c = 6 := by
  unfold ownB at h
  simp at h
  omega
theorem tb_mk {P : Program} {K : PySem.W.Frag} {mg : Str → Option Value} {h : Heap} {C0 C1 C2 C3 C4 C5 C6 : Addr} {t_MOST_CLASSES t_MOST_UNKNOWNS  : Tok}
    {qual1 file1 : Str} {p11 p21 pd1 q1_1 q2_1 q3_1 q4_1 q5_1 q6_1 q7_1 q8_1 q9_1 qa_1 : Pos} {Td1 cda1 cc1 fI1 : Addr} {oc1 kV1 doc1 pm1 ct1 To1 ccl1 cl1 : Value} {od1 an1 Tt1 cdd1 cld1 : Option Addr} {osl1 Ts1 ccs1 csl1 : Array (Option Value)} {nT1 : Nat} {vs1 : Array Value} {tf1 : Tok}
    {qual2 file2 : Str} {p12 p22 pd2 q1_2 q2_2 q3_2 q4_2 q5_2 q6_2 q7_2 q8_2 q9_2 qa_2 : Pos} {Td2 cda2 cc2 fI2 : Addr} {oc2 kV2 doc2 pm2 ct2 To2 ccl2 cl2 : Value} {od2 an2 Tt2 cdd2 cld2 : Option Addr} {osl2 Ts2 ccs2 csl2 : Array (Option Value)} {nT2 : Nat} {vs2 : Array Value} {tf2 : Tok}
    {qual3 file3 : Str} {p13 p23 pd3 q1_3 q2_3 q3_3 q4_3 q5_3 q6_3 q7_3 q8_3 q9_3 qa_3 : Pos} {Td3 cda3 cc3 fI3 : Addr} {oc3 kV3 doc3 pm3 ct3 To3 ccl3 cl3 : Value} {od3 an3 Tt3 cdd3 cld3 : Option Addr} {osl3 Ts3 ccs3 csl3 : Array (Option Value)} {nT3 : Nat} {vs3 : Array Value} {tf3 : Tok}
    {qual4 file4 : Str} {p14 p24 pd4 q1_4 q2_4 q3_4 q4_4 q5_4 q6_4 q7_4 q8_4 q9_4 qa_4 : Pos} {Td4 cda4 cc4 fI4 : Addr} {oc4 kV4 doc4 pm4 ct4 To4 ccl4 cl4 : Value} {od4 an4 Tt4 cdd4 cld4 : Option Addr} {osl4 Ts4 ccs4 csl4 : Array (Option Value)} {nT4 : Nat} {vs4 : Array Value} {tf4 : Tok}
    {qual5 file5 : Str} {p15 p25 pd5 q1_5 q2_5 q3_5 q4_5 q5_5 q6_5 q7_5 q8_5 q9_5 qa_5 : Pos} {Td5 cda5 cc5 fI5 : Addr} {oc5 kV5 doc5 pm5 ct5 To5 ccl5 cl5 : Value} {od5 an5 Tt5 cdd5 cld5 : Option Addr} {osl5 Ts5 ccs5 csl5 : Array (Option Value)} {nT5 : Nat} {vs5 : Array Value} {tf5 : Tok}
    {nm1 qq1 : Str} {N1 : Addr} {bs1 bm1 sub1 : List Value} {sn1 : List Str} {ab1 : Bool} {col1 : Option Bool} {dd1 : Option Addr} {k0_1 k1_1 k2_1 k3_1 k5_1 : Option Value}
    {nm2 qq2 : Str} {N2 : Addr} {bs2 bm2 sub2 : List Value} {sn2 : List Str} {ab2 : Bool} {col2 : Option Bool} {dd2 : Option Addr} {k0_2 k1_2 k2_2 k3_2 k5_2 : Option Value}
    {nm3 qq3 : Str} {N3 : Addr} {bs3 bm3 sub3 : List Value} {sn3 : List Str} {ab3 : Bool} {col3 : Option Bool} {dd3 : Option Addr} {k0_3 k1_3 k2_3 k3_3 k5_3 : Option Value}
    {nm4 qq4 : Str} {N4 : Addr} {bs4 bm4 sub4 : List Value} {sn4 : List Str} {ab4 : Bool} {col4 : Option Bool} {dd4 : Option Addr} {k0_4 k1_4 k2_4 k3_4 k5_4 : Option Value}
    {nm5 qq5 : Str} {N5 : Addr} {bs5 bm5 sub5 : List Value} {sn5 : List Str} {ab5 : Bool} {col5 : Option Bool} {dd5 : Option Addr} {k0_5 k1_5 k2_5 k3_5 k5_5 : Option Value}
    (X : K.In h) (G : h.Ns mainGlobals mg)
    (aC0 : PySem.W.nsIn K mainGlobals "LoopError" = some (some (.ref C0)))
    (aC1 : PySem.W.nsIn K mainGlobals "InvalidPoint" = some (some (.ref C1)))
    (aC2 : PySem.W.nsIn K mainGlobals "InvalidList" = some (some (.ref C2)))
    (aC3 : PySem.W.nsIn K mainGlobals "InvalidGrid" = some (some (.ref C3)))
    (aC4 : PySem.W.nsIn K mainGlobals "Unlike" = some (some (.ref C4)))
    (aC5 : PySem.W.nsIn K mainGlobals "TooMany" = some (some (.ref C5)))
    (aC6 : PySem.W.nsIn K mainGlobals "Grid" = some (some (.ref C6)))
    (cn_MOST_CLASSES : PySem.W.nsIn K mainGlobals "MOST_CLASSES" = some (some (.int 600 t_MOST_CLASSES)))
    (cn_MOST_UNKNOWNS : PySem.W.nsIn K mainGlobals "MOST_UNKNOWNS" = some (some (.int 3 t_MOST_UNKNOWNS)))
    (g_bool : PySem.W.nsIn K mainGlobals "bool" = some none)
    (g_int : PySem.W.nsIn K mainGlobals "int" = some none)
    (g_isinstance : PySem.W.nsIn K mainGlobals "isinstance" = some none)
    (g_len : PySem.W.nsIn K mainGlobals "len" = some none)
    (g_list : PySem.W.nsIn K mainGlobals "list" = some none)
    (g_max : PySem.W.nsIn K mainGlobals "max" = some none)
    (g_range : PySem.W.nsIn K mainGlobals "range" = some none)
    (g_sum : PySem.W.nsIn K mainGlobals "sum" = some none)
    (g_super : PySem.W.nsIn K mainGlobals "super" = some none)
    (g_tuple : PySem.W.nsIn K mainGlobals "tuple" = some none)
    (g_zip : PySem.W.nsIn K mainGlobals "zip" = some none)
    (mb_lcm : PySem.W.nsIn K mainGlobals "lcm" = some (some (.builtin "math.lcm")))
    (kt0_0 : PySem.W.kitOne K (.type "NoneType") (.ref C0) = some false)
    (kt0_1 : PySem.W.kitOne K (.type "NoneType") (.ref C1) = some false)
    (kt0_2 : PySem.W.kitOne K (.type "NoneType") (.ref C2) = some false)
    (kt0_3 : PySem.W.kitOne K (.type "NoneType") (.ref C3) = some false)
    (kt0_4 : PySem.W.kitOne K (.type "NoneType") (.ref C4) = some false)
    (kt0_5 : PySem.W.kitOne K (.type "NoneType") (.ref C5) = some false)
    (kt0_6 : PySem.W.kitOne K (.type "NoneType") (.ref C6) = some false)
    (kt1_0 : PySem.W.kitOne K (.type "bool") (.ref C0) = some false)
    (kt1_1 : PySem.W.kitOne K (.type "bool") (.ref C1) = some false)
    (kt1_2 : PySem.W.kitOne K (.type "bool") (.ref C2) = some false)
    (kt1_3 : PySem.W.kitOne K (.type "bool") (.ref C3) = some false)
    (kt1_4 : PySem.W.kitOne K (.type "bool") (.ref C4) = some false)
    (kt1_5 : PySem.W.kitOne K (.type "bool") (.ref C5) = some false)
    (kt1_6 : PySem.W.kitOne K (.type "bool") (.ref C6) = some false)
    (kt2_0 : PySem.W.kitOne K (.type "int") (.ref C0) = some false)
    (kt2_1 : PySem.W.kitOne K (.type "int") (.ref C1) = some false)
    (kt2_2 : PySem.W.kitOne K (.type "int") (.ref C2) = some false)
    (kt2_3 : PySem.W.kitOne K (.type "int") (.ref C3) = some false)
    (kt2_4 : PySem.W.kitOne K (.type "int") (.ref C4) = some false)
    (kt2_5 : PySem.W.kitOne K (.type "int") (.ref C5) = some false)
    (kt2_6 : PySem.W.kitOne K (.type "int") (.ref C6) = some false)
    (kt3_0 : PySem.W.kitOne K (.type "str") (.ref C0) = some false)
    (kt3_1 : PySem.W.kitOne K (.type "str") (.ref C1) = some false)
    (kt3_2 : PySem.W.kitOne K (.type "str") (.ref C2) = some false)
    (kt3_3 : PySem.W.kitOne K (.type "str") (.ref C3) = some false)
    (kt3_4 : PySem.W.kitOne K (.type "str") (.ref C4) = some false)
    (kt3_5 : PySem.W.kitOne K (.type "str") (.ref C5) = some false)
    (kt3_6 : PySem.W.kitOne K (.type "str") (.ref C6) = some false)
    (kt4_0 : PySem.W.kitOne K (.type "tuple") (.ref C0) = some false)
    (kt4_1 : PySem.W.kitOne K (.type "tuple") (.ref C1) = some false)
    (kt4_2 : PySem.W.kitOne K (.type "tuple") (.ref C2) = some false)
    (kt4_3 : PySem.W.kitOne K (.type "tuple") (.ref C3) = some false)
    (kt4_4 : PySem.W.kitOne K (.type "tuple") (.ref C4) = some false)
    (kt4_5 : PySem.W.kitOne K (.type "tuple") (.ref C5) = some false)
    (kt4_6 : PySem.W.kitOne K (.type "tuple") (.ref C6) = some false)
    (kt5_0 : PySem.W.kitOne K (.type "list") (.ref C0) = some false)
    (kt5_1 : PySem.W.kitOne K (.type "list") (.ref C1) = some false)
    (kt5_2 : PySem.W.kitOne K (.type "list") (.ref C2) = some false)
    (kt5_3 : PySem.W.kitOne K (.type "list") (.ref C3) = some false)
    (kt5_4 : PySem.W.kitOne K (.type "list") (.ref C4) = some false)
    (kt5_5 : PySem.W.kitOne K (.type "list") (.ref C5) = some false)
    (kt5_6 : PySem.W.kitOne K (.type "list") (.ref C6) = some false)
    (ko0_0 : PySem.W.kitOne K (.ref C0) (.ref C0) = some true)
    (ko0_1 : PySem.W.kitOne K (.ref C0) (.ref C1) = some false)
    (ko0_2 : PySem.W.kitOne K (.ref C0) (.ref C2) = some false)
    (ko0_3 : PySem.W.kitOne K (.ref C0) (.ref C3) = some false)
    (ko0_4 : PySem.W.kitOne K (.ref C0) (.ref C4) = some false)
    (ko0_5 : PySem.W.kitOne K (.ref C0) (.ref C5) = some false)
    (ko0_6 : PySem.W.kitOne K (.ref C0) (.ref C6) = some false)
    (ko1_0 : PySem.W.kitOne K (.ref C1) (.ref C0) = some true)
    (ko1_1 : PySem.W.kitOne K (.ref C1) (.ref C1) = some true)
    (ko1_2 : PySem.W.kitOne K (.ref C1) (.ref C2) = some false)
    (ko1_3 : PySem.W.kitOne K (.ref C1) (.ref C3) = some false)
    (ko1_4 : PySem.W.kitOne K (.ref C1) (.ref C4) = some false)
    (ko1_5 : PySem.W.kitOne K (.ref C1) (.ref C5) = some false)
    (ko1_6 : PySem.W.kitOne K (.ref C1) (.ref C6) = some false)
    (ko2_0 : PySem.W.kitOne K (.ref C2) (.ref C0) = some true)
    (ko2_1 : PySem.W.kitOne K (.ref C2) (.ref C1) = some false)
    (ko2_2 : PySem.W.kitOne K (.ref C2) (.ref C2) = some true)
    (ko2_3 : PySem.W.kitOne K (.ref C2) (.ref C3) = some false)
    (ko2_4 : PySem.W.kitOne K (.ref C2) (.ref C4) = some false)
    (ko2_5 : PySem.W.kitOne K (.ref C2) (.ref C5) = some false)
    (ko2_6 : PySem.W.kitOne K (.ref C2) (.ref C6) = some false)
    (ko3_0 : PySem.W.kitOne K (.ref C3) (.ref C0) = some true)
    (ko3_1 : PySem.W.kitOne K (.ref C3) (.ref C1) = some false)
    (ko3_2 : PySem.W.kitOne K (.ref C3) (.ref C2) = some false)
    (ko3_3 : PySem.W.kitOne K (.ref C3) (.ref C3) = some true)
    (ko3_4 : PySem.W.kitOne K (.ref C3) (.ref C4) = some false)
    (ko3_5 : PySem.W.kitOne K (.ref C3) (.ref C5) = some false)
    (ko3_6 : PySem.W.kitOne K (.ref C3) (.ref C6) = some false)
    (ko4_0 : PySem.W.kitOne K (.ref C4) (.ref C0) = some true)
    (ko4_1 : PySem.W.kitOne K (.ref C4) (.ref C1) = some false)
    (ko4_2 : PySem.W.kitOne K (.ref C4) (.ref C2) = some false)
    (ko4_3 : PySem.W.kitOne K (.ref C4) (.ref C3) = some false)
    (ko4_4 : PySem.W.kitOne K (.ref C4) (.ref C4) = some true)
    (ko4_5 : PySem.W.kitOne K (.ref C4) (.ref C5) = some false)
    (ko4_6 : PySem.W.kitOne K (.ref C4) (.ref C6) = some false)
    (ko5_0 : PySem.W.kitOne K (.ref C5) (.ref C0) = some true)
    (ko5_1 : PySem.W.kitOne K (.ref C5) (.ref C1) = some false)
    (ko5_2 : PySem.W.kitOne K (.ref C5) (.ref C2) = some false)
    (ko5_3 : PySem.W.kitOne K (.ref C5) (.ref C3) = some false)
    (ko5_4 : PySem.W.kitOne K (.ref C5) (.ref C4) = some false)
    (ko5_5 : PySem.W.kitOne K (.ref C5) (.ref C5) = some true)
    (ko5_6 : PySem.W.kitOne K (.ref C5) (.ref C6) = some false)
    (ko6_0 : PySem.W.kitOne K (.ref C6) (.ref C0) = some false)
    (ko6_1 : PySem.W.kitOne K (.ref C6) (.ref C1) = some false)
    (ko6_2 : PySem.W.kitOne K (.ref C6) (.ref C2) = some false)
    (ko6_3 : PySem.W.kitOne K (.ref C6) (.ref C3) = some false)
    (ko6_4 : PySem.W.kitOne K (.ref C6) (.ref C4) = some false)
    (ko6_5 : PySem.W.kitOne K (.ref C6) (.ref C5) = some false)
    (ko6_6 : PySem.W.kitOne K (.ref C6) (.ref C6) = some true)
    (xm0_0 : PySem.W.exmOne K (.ref C0) (.ref C0) = some true)
    (xm0_1 : PySem.W.exmOne K (.ref C0) (.ref C1) = some false)
    (xm0_2 : PySem.W.exmOne K (.ref C0) (.ref C2) = some false)
    (xm0_3 : PySem.W.exmOne K (.ref C0) (.ref C3) = some false)
    (xm0_4 : PySem.W.exmOne K (.ref C0) (.ref C4) = some false)
    (xm0_5 : PySem.W.exmOne K (.ref C0) (.ref C5) = some false)
    (xm1_0 : PySem.W.exmOne K (.ref C1) (.ref C0) = some true)
    (xm1_1 : PySem.W.exmOne K (.ref C1) (.ref C1) = some true)
    (xm1_2 : PySem.W.exmOne K (.ref C1) (.ref C2) = some false)
    (xm1_3 : PySem.W.exmOne K (.ref C1) (.ref C3) = some false)
    (xm1_4 : PySem.W.exmOne K (.ref C1) (.ref C4) = some false)
    (xm1_5 : PySem.W.exmOne K (.ref C1) (.ref C5) = some false)
    (xm2_0 : PySem.W.exmOne K (.ref C2) (.ref C0) = some true)
    (xm2_1 : PySem.W.exmOne K (.ref C2) (.ref C1) = some false)
    (xm2_2 : PySem.W.exmOne K (.ref C2) (.ref C2) = some true)
    (xm2_3 : PySem.W.exmOne K (.ref C2) (.ref C3) = some false)
    (xm2_4 : PySem.W.exmOne K (.ref C2) (.ref C4) = some false)
    (xm2_5 : PySem.W.exmOne K (.ref C2) (.ref C5) = some false)
    (xm3_0 : PySem.W.exmOne K (.ref C3) (.ref C0) = some true)
    (xm3_1 : PySem.W.exmOne K (.ref C3) (.ref C1) = some false)
    (xm3_2 : PySem.W.exmOne K (.ref C3) (.ref C2) = some false)
    (xm3_3 : PySem.W.exmOne K (.ref C3) (.ref C3) = some true)
    (xm3_4 : PySem.W.exmOne K (.ref C3) (.ref C4) = some false)
    (xm3_5 : PySem.W.exmOne K (.ref C3) (.ref C5) = some false)
    (xm4_0 : PySem.W.exmOne K (.ref C4) (.ref C0) = some true)
    (xm4_1 : PySem.W.exmOne K (.ref C4) (.ref C1) = some false)
    (xm4_2 : PySem.W.exmOne K (.ref C4) (.ref C2) = some false)
    (xm4_3 : PySem.W.exmOne K (.ref C4) (.ref C3) = some false)
    (xm4_4 : PySem.W.exmOne K (.ref C4) (.ref C4) = some true)
    (xm4_5 : PySem.W.exmOne K (.ref C4) (.ref C5) = some false)
    (xm5_0 : PySem.W.exmOne K (.ref C5) (.ref C0) = some true)
    (xm5_1 : PySem.W.exmOne K (.ref C5) (.ref C1) = some false)
    (xm5_2 : PySem.W.exmOne K (.ref C5) (.ref C2) = some false)
    (xm5_3 : PySem.W.exmOne K (.ref C5) (.ref C3) = some false)
    (xm5_4 : PySem.W.exmOne K (.ref C5) (.ref C4) = some false)
    (xm5_5 : PySem.W.exmOne K (.ref C5) (.ref C5) = some true)
    (xhn : PySem.W.specialIn K (.builtin "object.__class__") "__get__" = some (some (.builtin "getset_descriptor.__get__")))
    (xht : PySem.W.takesIn K (.builtin "object.__class__") = some true)
    (xga0 : PySem.W.findIn K (.ref C0) "__getattribute__" = some (some (.builtin "BaseException.__getattribute__")))
    (xgg0 : PySem.W.findIn K (.ref C0) "__getattr__" = some none)
    (xex0 : PySem.W.subIn K (.ref C0) (.type "BaseException") = some true)
    (xhd0 : PySem.W.hasDictIn K C0 = true)
    (xcl0 : (PySem.W.clsIn K C0).isSome = true)
    (xha0 : PySem.W.findIn K (.ref C0) "__class__" = some (some (.builtin "object.__class__")))
    (xhm0 : PySem.W.mroIn K C0 (.type "object") = some true)
    (xnv0 : PySem.W.findIn K (.ref C0) "value" = some none)
    (xga1 : PySem.W.findIn K (.ref C1) "__getattribute__" = some (some (.builtin "BaseException.__getattribute__")))
    (xgg1 : PySem.W.findIn K (.ref C1) "__getattr__" = some none)
    (xex1 : PySem.W.subIn K (.ref C1) (.type "BaseException") = some true)
    (xhd1 : PySem.W.hasDictIn K C1 = true)
    (xcl1 : (PySem.W.clsIn K C1).isSome = true)
    (xha1 : PySem.W.findIn K (.ref C1) "__class__" = some (some (.builtin "object.__class__")))
    (xhm1 : PySem.W.mroIn K C1 (.type "object") = some true)
    (xnv1 : PySem.W.findIn K (.ref C1) "value" = some none)
    (xga2 : PySem.W.findIn K (.ref C2) "__getattribute__" = some (some (.builtin "BaseException.__getattribute__")))
    (xgg2 : PySem.W.findIn K (.ref C2) "__getattr__" = some none)
    (xex2 : PySem.W.subIn K (.ref C2) (.type "BaseException") = some true)
    (xhd2 : PySem.W.hasDictIn K C2 = true)
    (xcl2 : (PySem.W.clsIn K C2).isSome = true)
    (xha2 : PySem.W.findIn K (.ref C2) "__class__" = some (some (.builtin "object.__class__")))
    (xhm2 : PySem.W.mroIn K C2 (.type "object") = some true)
    (xnv2 : PySem.W.findIn K (.ref C2) "value" = some none)
    (xga3 : PySem.W.findIn K (.ref C3) "__getattribute__" = some (some (.builtin "BaseException.__getattribute__")))
    (xgg3 : PySem.W.findIn K (.ref C3) "__getattr__" = some none)
    (xex3 : PySem.W.subIn K (.ref C3) (.type "BaseException") = some true)
    (xhd3 : PySem.W.hasDictIn K C3 = true)
    (xcl3 : (PySem.W.clsIn K C3).isSome = true)
    (xha3 : PySem.W.findIn K (.ref C3) "__class__" = some (some (.builtin "object.__class__")))
    (xhm3 : PySem.W.mroIn K C3 (.type "object") = some true)
    (xnv3 : PySem.W.findIn K (.ref C3) "value" = some none)
    (xga4 : PySem.W.findIn K (.ref C4) "__getattribute__" = some (some (.builtin "BaseException.__getattribute__")))
    (xgg4 : PySem.W.findIn K (.ref C4) "__getattr__" = some none)
    (xex4 : PySem.W.subIn K (.ref C4) (.type "BaseException") = some true)
    (xhd4 : PySem.W.hasDictIn K C4 = true)
    (xcl4 : (PySem.W.clsIn K C4).isSome = true)
    (xha4 : PySem.W.findIn K (.ref C4) "__class__" = some (some (.builtin "object.__class__")))
    (xhm4 : PySem.W.mroIn K C4 (.type "object") = some true)
    (xnv4 : PySem.W.findIn K (.ref C4) "value" = some none)
    (xga5 : PySem.W.findIn K (.ref C5) "__getattribute__" = some (some (.builtin "BaseException.__getattribute__")))
    (xgg5 : PySem.W.findIn K (.ref C5) "__getattr__" = some none)
    (xex5 : PySem.W.subIn K (.ref C5) (.type "BaseException") = some true)
    (xhd5 : PySem.W.hasDictIn K C5 = true)
    (xcl5 : (PySem.W.clsIn K C5).isSome = true)
    (xha5 : PySem.W.findIn K (.ref C5) "__class__" = some (some (.builtin "object.__class__")))
    (xhm5 : PySem.W.mroIn K C5 (.type "object") = some true)
    (xnv5 : PySem.W.findIn K (.ref C5) "value" = some none)
    (opg6 : PySem.W.plainGet K C6 Str.empty = true)
    (ohd6 : PySem.W.hasDictIn K C6 = true)
    (opo6 : PySem.W.plainOver K C6 = true)
    (osa6 : PySem.W.findIn K (.ref C6) "__setattr__" = some (some (.builtin "object.__setattr__")))
    (oha6 : PySem.W.findIn K (.ref C6) "__class__" = some (some (.builtin "object.__class__")))
    (ohm6 : PySem.W.mroIn K C6 (.type "object") = some true)
    (ot6_0 : PySem.W.kitOne K (.ref C6) (.type "NoneType") = some false)
    (ot6_1 : PySem.W.kitOne K (.ref C6) (.type "bool") = some false)
    (ot6_2 : PySem.W.kitOne K (.ref C6) (.type "int") = some false)
    (ot6_3 : PySem.W.kitOne K (.ref C6) (.type "str") = some false)
    (ot6_4 : PySem.W.kitOne K (.ref C6) (.type "tuple") = some false)
    (ot6_5 : PySem.W.kitOne K (.ref C6) (.type "list") = some false)
    (nf6__limits : PySem.W.findIn K (.ref C6) "_limits" = some none)
    (ent : PySem.W.nsIn K PySem.cStatics "thirdparty.any" = some none)
    (esa1 : PySem.W.findIn K (.ref C1) "__setattr__" = some (some (.builtin "object.__setattr__")))
    (eiC1 : PySem.W.findIn K (.ref C1) "__init__" = some (some (.ref fI1)))
    (etC1 : PySem.W.typeIn K (.ref fI1) = some (.type "function"))
    (ekC1 : PySem.W.keepIn K (.ref C1) = true)
    (ety1 : PySem.W.typeIn K (.ref C1) = some (.type "type"))
    (exi1 : PySem.W.excInitIn K C1 veB "ValueError.__new__" = true)
    (esu1 : PySem.W.ks_superIn K C1 C1 "__init__" = some (some (.builtin "ValueError.__init__")))
    (esV1 : PySem.W.subIn K (.ref C1) (.type "ValueError") = some true)
    (emC1 : PySem.W.mroIn K C1 (.ref C1) = some true)
    (esa2 : PySem.W.findIn K (.ref C2) "__setattr__" = some (some (.builtin "object.__setattr__")))
    (eiC2 : PySem.W.findIn K (.ref C2) "__init__" = some (some (.ref fI2)))
    (etC2 : PySem.W.typeIn K (.ref fI2) = some (.type "function"))
    (ekC2 : PySem.W.keepIn K (.ref C2) = true)
    (ety2 : PySem.W.typeIn K (.ref C2) = some (.type "type"))
    (exi2 : PySem.W.excInitIn K C2 veB "ValueError.__new__" = true)
    (esu2 : PySem.W.ks_superIn K C2 C2 "__init__" = some (some (.builtin "ValueError.__init__")))
    (esV2 : PySem.W.subIn K (.ref C2) (.type "ValueError") = some true)
    (emC2 : PySem.W.mroIn K C2 (.ref C2) = some true)
    (esa3 : PySem.W.findIn K (.ref C3) "__setattr__" = some (some (.builtin "object.__setattr__")))
    (eiC3 : PySem.W.findIn K (.ref C3) "__init__" = some (some (.ref fI3)))
    (etC3 : PySem.W.typeIn K (.ref fI3) = some (.type "function"))
    (ekC3 : PySem.W.keepIn K (.ref C3) = true)
    (ety3 : PySem.W.typeIn K (.ref C3) = some (.type "type"))
    (exi3 : PySem.W.excInitIn K C3 veB "ValueError.__new__" = true)
    (esu3 : PySem.W.ks_superIn K C3 C3 "__init__" = some (some (.builtin "ValueError.__init__")))
    (esV3 : PySem.W.subIn K (.ref C3) (.type "ValueError") = some true)
    (emC3 : PySem.W.mroIn K C3 (.ref C3) = some true)
    (esa4 : PySem.W.findIn K (.ref C4) "__setattr__" = some (some (.builtin "object.__setattr__")))
    (eiC4 : PySem.W.findIn K (.ref C4) "__init__" = some (some (.ref fI4)))
    (etC4 : PySem.W.typeIn K (.ref fI4) = some (.type "function"))
    (ekC4 : PySem.W.keepIn K (.ref C4) = true)
    (ety4 : PySem.W.typeIn K (.ref C4) = some (.type "type"))
    (exi4 : PySem.W.excInitIn K C4 veB "ValueError.__new__" = true)
    (esu4 : PySem.W.ks_superIn K C4 C4 "__init__" = some (some (.builtin "ValueError.__init__")))
    (esV4 : PySem.W.subIn K (.ref C4) (.type "ValueError") = some true)
    (emC4 : PySem.W.mroIn K C4 (.ref C4) = some true)
    (esa5 : PySem.W.findIn K (.ref C5) "__setattr__" = some (some (.builtin "object.__setattr__")))
    (eiC5 : PySem.W.findIn K (.ref C5) "__init__" = some (some (.ref fI5)))
    (etC5 : PySem.W.typeIn K (.ref fI5) = some (.type "function"))
    (ekC5 : PySem.W.keepIn K (.ref C5) = true)
    (ety5 : PySem.W.typeIn K (.ref C5) = some (.type "type"))
    (exi5 : PySem.W.excInitIn K C5 veB "ValueError.__new__" = true)
    (esu5 : PySem.W.ks_superIn K C5 C5 "__init__" = some (some (.builtin "ValueError.__init__")))
    (esV5 : PySem.W.subIn K (.ref C5) (.type "ValueError") = some true)
    (emC5 : PySem.W.mroIn K C5 (.ref C5) = some true)
    (ec1 : K.lookup C1 = some (PySem.excClassObj nm1 qq1 C1 N1 bs1 bm1 true sn1 sub1 ab1 col1 dd1 k0_1 k1_1 k2_1 k3_1 k5_1 "ValueError.__new__"))
    (er1 : PySem.HandSPX.refsVE bm1 = true)
    (fl1 : K.lookup fI1 = some ⟨oc1, od1, .func (PySem.W.ksFn "__init__" qual1 (iA p11 p21 pd1) (iB q1_1 q2_1 q3_1 q4_1 q5_1 q6_1 q7_1 q8_1 q9_1 qa_1) iS (.ref Td1) kV1 doc1 pm1 an1 (.ref cda1) ct1 cc1), osl1⟩)
    (fc1 : PySem.W.codeIn K (.ref cda1) qual1 = true)
    (fT1 : K.lookup Td1 = some ⟨To1, Tt1, .seq #[.none] nT1, Ts1⟩)
    (fp1 : (q3_1.endLine == q5_1.line) = true)
    (fd1 : K.lookup cda1 = some ⟨ccl1, cdd1, .fields vs1, ccs1⟩)
    (fv1 : vs1[2]? = some (.str file1 tf1))
    (ff1 : (P.main.file == file1) = true)
    (fk1 : K.lookup cc1 = some ⟨cl1, cld1, .cell (some (.ref C1)), csl1⟩)
    (ec2 : K.lookup C2 = some (PySem.excClassObj nm2 qq2 C2 N2 bs2 bm2 true sn2 sub2 ab2 col2 dd2 k0_2 k1_2 k2_2 k3_2 k5_2 "ValueError.__new__"))
    (er2 : PySem.HandSPX.refsVE bm2 = true)
    (fl2 : K.lookup fI2 = some ⟨oc2, od2, .func (PySem.W.ksFn "__init__" qual2 (iA p12 p22 pd2) (iB q1_2 q2_2 q3_2 q4_2 q5_2 q6_2 q7_2 q8_2 q9_2 qa_2) iS (.ref Td2) kV2 doc2 pm2 an2 (.ref cda2) ct2 cc2), osl2⟩)
    (fc2 : PySem.W.codeIn K (.ref cda2) qual2 = true)
    (fT2 : K.lookup Td2 = some ⟨To2, Tt2, .seq #[.none] nT2, Ts2⟩)
    (fp2 : (q3_2.endLine == q5_2.line) = true)
    (fd2 : K.lookup cda2 = some ⟨ccl2, cdd2, .fields vs2, ccs2⟩)
    (fv2 : vs2[2]? = some (.str file2 tf2))
    (ff2 : (P.main.file == file2) = true)
    (fk2 : K.lookup cc2 = some ⟨cl2, cld2, .cell (some (.ref C2)), csl2⟩)
    (ec3 : K.lookup C3 = some (PySem.excClassObj nm3 qq3 C3 N3 bs3 bm3 true sn3 sub3 ab3 col3 dd3 k0_3 k1_3 k2_3 k3_3 k5_3 "ValueError.__new__"))
    (er3 : PySem.HandSPX.refsVE bm3 = true)
    (fl3 : K.lookup fI3 = some ⟨oc3, od3, .func (PySem.W.ksFn "__init__" qual3 (iA p13 p23 pd3) (iB q1_3 q2_3 q3_3 q4_3 q5_3 q6_3 q7_3 q8_3 q9_3 qa_3) iS (.ref Td3) kV3 doc3 pm3 an3 (.ref cda3) ct3 cc3), osl3⟩)
    (fc3 : PySem.W.codeIn K (.ref cda3) qual3 = true)
    (fT3 : K.lookup Td3 = some ⟨To3, Tt3, .seq #[.none] nT3, Ts3⟩)
    (fp3 : (q3_3.endLine == q5_3.line) = true)
    (fd3 : K.lookup cda3 = some ⟨ccl3, cdd3, .fields vs3, ccs3⟩)
    (fv3 : vs3[2]? = some (.str file3 tf3))
    (ff3 : (P.main.file == file3) = true)
    (fk3 : K.lookup cc3 = some ⟨cl3, cld3, .cell (some (.ref C3)), csl3⟩)
    (ec4 : K.lookup C4 = some (PySem.excClassObj nm4 qq4 C4 N4 bs4 bm4 true sn4 sub4 ab4 col4 dd4 k0_4 k1_4 k2_4 k3_4 k5_4 "ValueError.__new__"))
    (er4 : PySem.HandSPX.refsVE bm4 = true)
    (fl4 : K.lookup fI4 = some ⟨oc4, od4, .func (PySem.W.ksFn "__init__" qual4 (iA p14 p24 pd4) (iB q1_4 q2_4 q3_4 q4_4 q5_4 q6_4 q7_4 q8_4 q9_4 qa_4) iS (.ref Td4) kV4 doc4 pm4 an4 (.ref cda4) ct4 cc4), osl4⟩)
    (fc4 : PySem.W.codeIn K (.ref cda4) qual4 = true)
    (fT4 : K.lookup Td4 = some ⟨To4, Tt4, .seq #[.none] nT4, Ts4⟩)
    (fp4 : (q3_4.endLine == q5_4.line) = true)
    (fd4 : K.lookup cda4 = some ⟨ccl4, cdd4, .fields vs4, ccs4⟩)
    (fv4 : vs4[2]? = some (.str file4 tf4))
    (ff4 : (P.main.file == file4) = true)
    (fk4 : K.lookup cc4 = some ⟨cl4, cld4, .cell (some (.ref C4)), csl4⟩)
    (ec5 : K.lookup C5 = some (PySem.excClassObj nm5 qq5 C5 N5 bs5 bm5 true sn5 sub5 ab5 col5 dd5 k0_5 k1_5 k2_5 k3_5 k5_5 "ValueError.__new__"))
    (er5 : PySem.HandSPX.refsVE bm5 = true)
    (fl5 : K.lookup fI5 = some ⟨oc5, od5, .func (PySem.W.ksFn "__init__" qual5 (iA p15 p25 pd5) (iB q1_5 q2_5 q3_5 q4_5 q5_5 q6_5 q7_5 q8_5 q9_5 qa_5) iS (.ref Td5) kV5 doc5 pm5 an5 (.ref cda5) ct5 cc5), osl5⟩)
    (fc5 : PySem.W.codeIn K (.ref cda5) qual5 = true)
    (fT5 : K.lookup Td5 = some ⟨To5, Tt5, .seq #[.none] nT5, Ts5⟩)
    (fp5 : (q3_5.endLine == q5_5.line) = true)
    (fd5 : K.lookup cda5 = some ⟨ccl5, cdd5, .fields vs5, ccs5⟩)
    (fv5 : vs5[2]? = some (.str file5 tf5))
    (ff5 : (P.main.file == file5) = true)
    (fk5 : K.lookup cc5 = some ⟨cl5, cld5, .cell (some (.ref C5)), csl5⟩)
    (etop : (P.main.scope.names.lookup ("super" : Str)).isSome = false)
    : Tb P K mg (ctF C0 C1 C2 C3 C4 C5 C6) := by
  have kit : ∀ c d, c < 7 → d < 7 → PySem.W.kitOne K (.ref (ctF C0 C1 C2 C3 C4 C5 C6 c)) (.ref (ctF C0 C1 C2 C3 C4 C5 C6 d)) = some (subB c d) := fun c d hc hd => by
    rcases ltC hc with rfl | rfl | rfl | rfl | rfl | rfl | rfl
    · rcases ltC hd with rfl | rfl | rfl | rfl | rfl | rfl | rfl
      · exact ko0_0
      · exact ko0_1
      · exact ko0_2
      · exact ko0_3
      · exact ko0_4
      · exact ko0_5
      · exact ko0_6
    · rcases ltC hd with rfl | rfl | rfl | rfl | rfl | rfl | rfl
      · exact ko1_0
      · exact ko1_1
      · exact ko1_2
      · exact ko1_3
      · exact ko1_4
      · exact ko1_5
      · exact ko1_6
    · rcases ltC hd with rfl | rfl | rfl | rfl | rfl | rfl | rfl
      · exact ko2_0
      · exact ko2_1
      · exact ko2_2
      · exact ko2_3
      · exact ko2_4
      · exact ko2_5
      · exact ko2_6
    · rcases ltC hd with rfl | rfl | rfl | rfl | rfl | rfl | rfl
      · exact ko3_0
      · exact ko3_1
      · exact ko3_2
      · exact ko3_3
      · exact ko3_4
      · exact ko3_5
      · exact ko3_6
    · rcases ltC hd with rfl | rfl | rfl | rfl | rfl | rfl | rfl
      · exact ko4_0
      · exact ko4_1
      · exact ko4_2
      · exact ko4_3
      · exact ko4_4
      · exact ko4_5
      · exact ko4_6
    · rcases ltC hd with rfl | rfl | rfl | rfl | rfl | rfl | rfl
      · exact ko5_0
      · exact ko5_1
      · exact ko5_2
      · exact ko5_3
      · exact ko5_4
      · exact ko5_5
      · exact ko5_6
    · rcases ltC hd with rfl | rfl | rfl | rfl | rfl | rfl | rfl
      · exact ko6_0
      · exact ko6_1
      · exact ko6_2
      · exact ko6_3
      · exact ko6_4
      · exact ko6_5
      · exact ko6_6
  have exm : ∀ c d, c < 6 → d < 6 → PySem.W.exmOne K (.ref (ctF C0 C1 C2 C3 C4 C5 C6 c)) (.ref (ctF C0 C1 C2 C3 C4 C5 C6 d)) = some (subB c d) := fun c d hc hd => by
    rcases ltE hc with rfl | rfl | rfl | rfl | rfl | rfl
    · rcases ltE hd with rfl | rfl | rfl | rfl | rfl | rfl
      · exact xm0_0
      · exact xm0_1
      · exact xm0_2
      · exact xm0_3
      · exact xm0_4
      · exact xm0_5
    · rcases ltE hd with rfl | rfl | rfl | rfl | rfl | rfl
      · exact xm1_0
      · exact xm1_1
      · exact xm1_2
      · exact xm1_3
      · exact xm1_4
      · exact xm1_5
    · rcases ltE hd with rfl | rfl | rfl | rfl | rfl | rfl
      · exact xm2_0
      · exact xm2_1
      · exact xm2_2
      · exact xm2_3
      · exact xm2_4
      · exact xm2_5
    · rcases ltE hd with rfl | rfl | rfl | rfl | rfl | rfl
      · exact xm3_0
      · exact xm3_1
      · exact xm3_2
      · exact xm3_3
      · exact xm3_4
      · exact xm3_5
    · rcases ltE hd with rfl | rfl | rfl | rfl | rfl | rfl
      · exact xm4_0
      · exact xm4_1
      · exact xm4_2
      · exact xm4_3
      · exact xm4_4
      · exact xm4_5
    · rcases ltE hd with rfl | rfl | rfl | rfl | rfl | rfl
      · exact xm5_0
      · exact xm5_1
      · exact xm5_2
      · exact xm5_3
      · exact xm5_4
      · exact xm5_5
  have ocl : ∀ c, ownB c = true → OwnC K (ctF C0 C1 C2 C3 C4 C5 C6 c) := fun c hc => by
    rcases isO hc with rfl
    · exact ⟨⟨opg6, ohd6, opo6, osa6⟩, oha6, xhn, xht, ohm6⟩
  refine ⟨⟨fun t ht c hc => ?_, fun c d hc hd => kit c d hc hd, fun c hc ho t ht => ?_, fun c hc ho => ocl c ho⟩, ⟨fun c hc => ?_, fun c d hc hd => kit c d (Nat.lt_of_lt_of_le (of_decide_eq_true hc) (by decide)) (Nat.lt_of_lt_of_le (of_decide_eq_true hd) (by decide)), fun c d hc hd => exm c d (of_decide_eq_true hc) (of_decide_eq_true hd)⟩, ⟨fun c hc => (ocl c hc).cl⟩, fun c hc => ?_, PySem.W.mg_none_of X G g_bool, PySem.W.mg_none_of X G g_int, PySem.W.mg_none_of X G g_isinstance, PySem.W.mg_none_of X G g_len, PySem.W.mg_none_of X G g_list, PySem.W.mg_none_of X G g_max, PySem.W.mg_none_of X G g_range, PySem.W.mg_none_of X G g_sum, PySem.W.mg_none_of X G g_super, PySem.W.mg_none_of X G g_tuple, PySem.W.mg_none_of X G g_zip, PySem.W.mg_of X G mb_lcm, ⟨t_MOST_CLASSES, PySem.W.mg_of X G cn_MOST_CLASSES⟩, ⟨t_MOST_UNKNOWNS, PySem.W.mg_of X G cn_MOST_UNKNOWNS⟩, PySem.W.mg_of X G aC0, PySem.W.mg_of X G aC1, PySem.W.mg_of X G aC2, PySem.W.mg_of X G aC3, PySem.W.mg_of X G aC4, PySem.W.mg_of X G aC5, PySem.W.mg_of X G aC6, ?_, ?_, ?_, ?_, ?_⟩
  · have m : t = "NoneType" ∨ t = "bool" ∨ t = "int" ∨ t = "str" ∨ t = "tuple" ∨ t = "list" := by simpa [knownT] using ht
    rcases m with rfl | rfl | rfl | rfl | rfl | rfl
    · rcases ltC hc with rfl | rfl | rfl | rfl | rfl | rfl | rfl
      · exact kt0_0
      · exact kt0_1
      · exact kt0_2
      · exact kt0_3
      · exact kt0_4
      · exact kt0_5
      · exact kt0_6
    · rcases ltC hc with rfl | rfl | rfl | rfl | rfl | rfl | rfl
      · exact kt1_0
      · exact kt1_1
      · exact kt1_2
      · exact kt1_3
      · exact kt1_4
      · exact kt1_5
      · exact kt1_6
    · rcases ltC hc with rfl | rfl | rfl | rfl | rfl | rfl | rfl
      · exact kt2_0
      · exact kt2_1
      · exact kt2_2
      · exact kt2_3
      · exact kt2_4
      · exact kt2_5
      · exact kt2_6
    · rcases ltC hc with rfl | rfl | rfl | rfl | rfl | rfl | rfl
      · exact kt3_0
      · exact kt3_1
      · exact kt3_2
      · exact kt3_3
      · exact kt3_4
      · exact kt3_5
      · exact kt3_6
    · rcases ltC hc with rfl | rfl | rfl | rfl | rfl | rfl | rfl
      · exact kt4_0
      · exact kt4_1
      · exact kt4_2
      · exact kt4_3
      · exact kt4_4
      · exact kt4_5
      · exact kt4_6
    · rcases ltC hc with rfl | rfl | rfl | rfl | rfl | rfl | rfl
      · exact kt5_0
      · exact kt5_1
      · exact kt5_2
      · exact kt5_3
      · exact kt5_4
      · exact kt5_5
      · exact kt5_6
  · have m : t = "NoneType" ∨ t = "bool" ∨ t = "int" ∨ t = "str" ∨ t = "tuple" ∨ t = "list" := by simpa [knownT] using ht
    rcases isO ho with rfl
    · rcases m with rfl | rfl | rfl | rfl | rfl | rfl
      · exact ot6_0
      · exact ot6_1
      · exact ot6_2
      · exact ot6_3
      · exact ot6_4
      · exact ot6_5
  · rcases ltE (of_decide_eq_true hc) with rfl | rfl | rfl | rfl | rfl | rfl
    · exact ⟨xga0, xgg0, xex0, xhd0, xcl0, xha0, xhn, xht, xhm0, xnv0⟩
    · exact ⟨xga1, xgg1, xex1, xhd1, xcl1, xha1, xhn, xht, xhm1, xnv1⟩
    · exact ⟨xga2, xgg2, xex2, xhd2, xcl2, xha2, xhn, xht, xhm2, xnv2⟩
    · exact ⟨xga3, xgg3, xex3, xhd3, xcl3, xha3, xhn, xht, xhm3, xnv3⟩
    · exact ⟨xga4, xgg4, xex4, xhd4, xcl4, xha4, xhn, xht, xhm4, xnv4⟩
    · exact ⟨xga5, xgg5, xex5, xhd5, xcl5, xha5, xhn, xht, xhm5, xnv5⟩
  · rcases isO hc with rfl
    · exact nf6__limits
  · exact ⟨fI1, ⟨_, _, _, _, _, _, _, _, _, _, _, _, _, _, _, ec1, er1⟩, esa1, xga1, xgg1, xnv1, eiC1, etC1, ekC1, xex1, ety1, xhd1, exi1, esu1, esV1, ent, emC1, ⟨_, _, _, _, _, _, _, _, _, _, _, _, _, _, _, _, _, _, _, _, _, _, _, _, _, _, _, _, _, _, _, _, _, _, _, _, fl1, fc1, fT1, rfl, fp1, fd1, fv1, ff1, fk1⟩, etop⟩
  · exact ⟨fI2, ⟨_, _, _, _, _, _, _, _, _, _, _, _, _, _, _, ec2, er2⟩, esa2, xga2, xgg2, xnv2, eiC2, etC2, ekC2, xex2, ety2, xhd2, exi2, esu2, esV2, ent, emC2, ⟨_, _, _, _, _, _, _, _, _, _, _, _, _, _, _, _, _, _, _, _, _, _, _, _, _, _, _, _, _, _, _, _, _, _, _, _, fl2, fc2, fT2, rfl, fp2, fd2, fv2, ff2, fk2⟩, etop⟩
  · exact ⟨fI3, ⟨_, _, _, _, _, _, _, _, _, _, _, _, _, _, _, ec3, er3⟩, esa3, xga3, xgg3, xnv3, eiC3, etC3, ekC3, xex3, ety3, xhd3, exi3, esu3, esV3, ent, emC3, ⟨_, _, _, _, _, _, _, _, _, _, _, _, _, _, _, _, _, _, _, _, _, _, _, _, _, _, _, _, _, _, _, _, _, _, _, _, fl3, fc3, fT3, rfl, fp3, fd3, fv3, ff3, fk3⟩, etop⟩
  · exact ⟨fI4, ⟨_, _, _, _, _, _, _, _, _, _, _, _, _, _, _, ec4, er4⟩, esa4, xga4, xgg4, xnv4, eiC4, etC4, ekC4, xex4, ety4, xhd4, exi4, esu4, esV4, ent, emC4, ⟨_, _, _, _, _, _, _, _, _, _, _, _, _, _, _, _, _, _, _, _, _, _, _, _, _, _, _, _, _, _, _, _, _, _, _, _, fl4, fc4, fT4, rfl, fp4, fd4, fv4, ff4, fk4⟩, etop⟩
  · exact ⟨fI5, ⟨_, _, _, _, _, _, _, _, _, _, _, _, _, _, _, ec5, er5⟩, esa5, xga5, xgg5, xnv5, eiC5, etC5, ekC5, xex5, ety5, xhd5, exi5, esu5, esV5, ent, emC5, ⟨_, _, _, _, _, _, _, _, _, _, _, _, _, _, _, _, _, _, _, _, _, _, _, _, _, _, _, _, _, _, _, _, _, _, _, _, fl5, fc5, fT5, rfl, fp5, fd5, fv5, ff5, fk5⟩, etop⟩
theorem nf_mk {K : PySem.W.Frag} {C : Addr} (h0 : PySem.W.notFirst K C (.type "NoneType") = true) (h1 : PySem.W.notFirst K C (.type "bool") = true) (h2 : PySem.W.notFirst K C (.type "int") = true) (h3 : PySem.W.notFirst K C (.type "str") = true) (h4 : PySem.W.notFirst K C (.type "tuple") = true) (h5 : PySem.W.notFirst K C (.type "list") = true) : ∀ t ∈ knownT, PySem.W.notFirst K C (.type t) = true := fun t ht => by
  have m : t = "NoneType" ∨ t = "bool" ∨ t = "int" ∨ t = "str" ∨ t = "tuple" ∨ t = "list" := by simpa [knownT] using ht
  rcases m with rfl | rfl | rfl | rfl | rfl | rfl
  · exact h0
  · exact h1
  · exact h2
  · exact h3
  · exact h4
  · exact h5
end FL

set_option Elab.async false
set_option linter.all false
open PySem PySem.W PyProof.Rows in
set_option maxRecDepth 100000 in
set_option maxHeartbeats 0 in
theorem PySem.Challenge.cw_openloops_k10_grids_that_refine_holds : PySem.Challenge.rw_openloops_k10_grids_that_refine.Holds := by
  w_on; o_law; k_head; (case hw => w_witness2)
  k_fill
  refine FL.walk_go (j := 9) (n := 63) (p := "_law_script") (l := PySem.Challenge.rw_openloops_k10_grids_that_refine) rfl (by decide) rfl ⟨⟨rfl, by decide, by decide⟩, rfl⟩ (fun w h Y => PySem.W.kIn_of Y) FL.law_ok ?F
  case F =>
    intro w mg fa h KX G hmg
    refine' FL.law_fin KX G (FL.tb_mk KX G ?aC0 ?aC1 ?aC2 ?aC3 ?aC4 ?aC5 ?aC6 ?cn_MOST_CLASSES ?cn_MOST_UNKNOWNS ?g_bool ?g_int ?g_isinstance ?g_len ?g_list ?g_max ?g_range ?g_sum ?g_super ?g_tuple ?g_zip ?mb_lcm ?kt0_0 ?kt0_1 ?kt0_2 ?kt0_3 ?kt0_4 ?kt0_5 ?kt0_6 ?kt1_0 ?kt1_1 ?kt1_2 ?kt1_3 ?kt1_4 ?kt1_5 ?kt1_6 ?kt2_0 ?kt2_1 ?kt2_2 ?kt2_3 ?kt2_4 ?kt2_5 ?kt2_6 ?kt3_0 ?kt3_1 ?kt3_2 ?kt3_3 ?kt3_4 ?kt3_5 ?kt3_6 ?kt4_0 ?kt4_1 ?kt4_2 ?kt4_3 ?kt4_4 ?kt4_5 ?kt4_6 ?kt5_0 ?kt5_1 ?kt5_2 ?kt5_3 ?kt5_4 ?kt5_5 ?kt5_6 ?ko0_0 ?ko0_1 ?ko0_2 ?ko0_3 ?ko0_4 ?ko0_5 ?ko0_6 ?ko1_0 ?ko1_1 ?ko1_2 ?ko1_3 ?ko1_4 ?ko1_5 ?ko1_6 ?ko2_0 ?ko2_1 ?ko2_2 ?ko2_3 ?ko2_4 ?ko2_5 ?ko2_6 ?ko3_0 ?ko3_1 ?ko3_2 ?ko3_3 ?ko3_4 ?ko3_5 ?ko3_6 ?ko4_0 ?ko4_1 ?ko4_2 ?ko4_3 ?ko4_4 ?ko4_5 ?ko4_6 ?ko5_0 ?ko5_1 ?ko5_2 ?ko5_3 ?ko5_4 ?ko5_5 ?ko5_6 ?ko6_0 ?ko6_1 ?ko6_2 ?ko6_3 ?ko6_4 ?ko6_5 ?ko6_6 ?xm0_0 ?xm0_1 ?xm0_2 ?xm0_3 ?xm0_4 ?xm0_5 ?xm1_0 ?xm1_1 ?xm1_2 ?xm1_3 ?xm1_4 ?xm1_5 ?xm2_0 ?xm2_1 ?xm2_2 ?xm2_3 ?xm2_4 ?xm2_5 ?xm3_0 ?xm3_1 ?xm3_2 ?xm3_3 ?xm3_4 ?xm3_5 ?xm4_0 ?xm4_1 ?xm4_2 ?xm4_3 ?xm4_4 ?xm4_5 ?xm5_0 ?xm5_1 ?xm5_2 ?xm5_3 ?xm5_4 ?xm5_5 ?xhn ?xht ?xga0 ?xgg0 ?xex0 ?xhd0 ?xcl0 ?xha0 ?xhm0 ?xnv0 ?xga1 ?xgg1 ?xex1 ?xhd1 ?xcl1 ?xha1 ?xhm1 ?xnv1 ?xga2 ?xgg2 ?xex2 ?xhd2 ?xcl2 ?xha2 ?xhm2 ?xnv2 ?xga3 ?xgg3 ?xex3 ?xhd3 ?xcl3 ?xha3 ?xhm3 ?xnv3 ?xga4 ?xgg4 ?xex4 ?xhd4 ?xcl4 ?xha4 ?xhm4 ?xnv4 ?xga5 ?xgg5 ?xex5 ?xhd5 ?xcl5 ?xha5 ?xhm5 ?xnv5 ?opg6 ?ohd6 ?opo6 ?osa6 ?oha6 ?ohm6 ?ot6_0 ?ot6_1 ?ot6_2 ?ot6_3 ?ot6_4 ?ot6_5 ?nf6__limits ?ent ?esa1 ?eiC1 ?etC1 ?ekC1 ?ety1 ?exi1 ?esu1 ?esV1 ?emC1 ?esa2 ?eiC2 ?etC2 ?ekC2 ?ety2 ?exi2 ?esu2 ?esV2 ?emC2 ?esa3 ?eiC3 ?etC3 ?ekC3 ?ety3 ?exi3 ?esu3 ?esV3 ?emC3 ?esa4 ?eiC4 ?etC4 ?ekC4 ?ety4 ?exi4 ?esu4 ?esV4 ?emC4 ?esa5 ?eiC5 ?etC5 ?ekC5 ?ety5 ?exi5 ?esu5 ?esV5 ?emC5 ?ec1 ?er1 ?fl1 ?fc1 ?fT1 ?fp1 ?fd1 ?fv1 ?ff1 ?fk1 ?ec2 ?er2 ?fl2 ?fc2 ?fT2 ?fp2 ?fd2 ?fv2 ?ff2 ?fk2 ?ec3 ?er3 ?fl3 ?fc3 ?fT3 ?fp3 ?fd3 ?fv3 ?ff3 ?fk3 ?ec4 ?er4 ?fl4 ?fc4 ?fT4 ?fp4 ?fd4 ?fv4 ?ff4 ?fk4 ?ec5 ?er5 ?fl5 ?fc5 ?fT5 ?fp5 ?fd5 ?fv5 ?ff5 ?fk5 ?etop) hmg ?mk_Grid ?kp_Grid (FL.nf_mk ?nn0_Grid ?nn1_Grid ?nn2_Grid ?nn3_Grid ?nn4_Grid ?nn5_Grid) (FL.fnF ?dis_whole_a ?dis_whole_l ?dis_whole_c ?dis_whole_k) (FL.fnF ?dis_between_a ?dis_between_l ?dis_between_c ?dis_between_k) (FL.fnF ?dare_counts_a ?dare_counts_l ?dare_counts_c ?dare_counts_k) (FL.fnF ?dis_point_a ?dis_point_l ?dis_point_c ?dis_point_k) (FL.fnF ?dcheck_point_a ?dcheck_point_l ?dcheck_point_c ?dcheck_point_k) (FL.fnF ?dis_limit_a ?dis_limit_l ?dis_limit_c ?dis_limit_k) (FL.fnF ?dclass_count_a ?dclass_count_l ?dclass_count_c ?dclass_count_k) (FL.fnF ?dleast_count_a ?dleast_count_l ?dleast_count_c ?dleast_count_k) (FL.fnF ?dreduced_a ?dreduced_l ?dreduced_c ?dreduced_k) (FL.fnF ?dmeeting_limits_a ?dmeeting_limits_l ?dmeeting_limits_c ?dmeeting_limits_k) (FL.meF ?dGrid___init___a ?dGrid___init___t ?dGrid___init___l ?dGrid___init___c ?dGrid___init___k) (FL.meF ?dGrid_many_a ?dGrid_many_t ?dGrid_many_l ?dGrid_many_c ?dGrid_many_k) (FL.meF ?dGrid_limits_a ?dGrid_limits_t ?dGrid_limits_l ?dGrid_limits_c ?dGrid_limits_k) (FL.meF ?dGrid___eq___a ?dGrid___eq___t ?dGrid___eq___l ?dGrid___eq___c ?dGrid___eq___k) (FL.fnF ?dcheck_grid_a ?dcheck_grid_l ?dcheck_grid_c ?dcheck_grid_k) (FL.fnF ?dcheck_two_grids_a ?dcheck_two_grids_l ?dcheck_two_grids_c ?dcheck_two_grids_k) (FL.fnF ?dclass_of_a ?dclass_of_l ?dclass_of_c ?dclass_of_k) (FL.fnF ?dlimits_refine_a ?dlimits_refine_l ?dlimits_refine_c ?dlimits_refine_k) (FL.fnF ?drefines_a ?drefines_l ?drefines_c ?drefines_k) (FL.fnF ?dmeeting_a ?dmeeting_l ?dmeeting_c ?dmeeting_k) (FL.fnF ?d_law_hash_a ?d_law_hash_l ?d_law_hash_c ?d_law_hash_k) (FL.fnF ?d_law_random_a ?d_law_random_l ?d_law_random_c ?d_law_random_k) (FL.fnF ?d_law_generator_a ?d_law_generator_l ?d_law_generator_c ?d_law_generator_k) (FL.fnF ?d_law_limits_a ?d_law_limits_l ?d_law_limits_c ?d_law_limits_k) (FL.fnF ?d_law_box_a ?d_law_box_l ?d_law_box_c ?d_law_box_k) (FL.fnF ?d_law_classes_a ?d_law_classes_l ?d_law_classes_c ?d_law_classes_k) (FL.fnF ?d_law_least_a ?d_law_least_l ?d_law_least_c ?d_law_least_k) (FL.fnF ?d_law_class_a ?d_law_class_l ?d_law_class_c ?d_law_class_k) (FL.fnF ?d_law_yes_a ?d_law_yes_l ?d_law_yes_c ?d_law_yes_k) (FL.fnF ?d_law_gcd_a ?d_law_gcd_l ?d_law_gcd_c ?d_law_gcd_k) (FL.fnF ?d_law_lcm_a ?d_law_lcm_l ?d_law_lcm_c ?d_law_lcm_k) (FL.fnF ?d_law_put_at_a ?d_law_put_at_l ?d_law_put_at_c ?d_law_put_at_k) (FL.fnF ?d_law_many_a ?d_law_many_l ?d_law_many_c ?d_law_many_k) (FL.fnF ?d_law_other_a ?d_law_other_l ?d_law_other_c ?d_law_other_k) (FL.fnF ?d_law_refines_a ?d_law_refines_l ?d_law_refines_c ?d_law_refines_k) (FL.fnF ?d_law_meeting_a ?d_law_meeting_l ?d_law_meeting_c ?d_law_meeting_k) (FL.fnF ?d_law_lies_within_a ?d_law_lies_within_l ?d_law_lies_within_c ?d_law_lies_within_k) (FL.fnF ?d_law_pair_good_a ?d_law_pair_good_l ?d_law_pair_good_c ?d_law_pair_good_k) (FL.fnF ?d_law_caught_a ?d_law_caught_l ?d_law_caught_c ?d_law_caught_k) (FL.fnF ?dlaw_a ?dlaw_l ?dlaw_c ?dlaw_k)
    (case aC0 => first | k_is | kernel_rfl | exact rfl)
    (case aC1 => first | k_is | kernel_rfl | exact rfl)
    (case aC2 => first | k_is | kernel_rfl | exact rfl)
    (case aC3 => first | k_is | kernel_rfl | exact rfl)
    (case aC4 => first | k_is | kernel_rfl | exact rfl)
    (case aC5 => first | k_is | kernel_rfl | exact rfl)
    (case aC6 => first | k_is | kernel_rfl | exact rfl)
    (case cn_MOST_CLASSES => first | k_is | kernel_rfl | exact rfl)
    (case cn_MOST_UNKNOWNS => first | k_is | kernel_rfl | exact rfl)
    (case g_bool => first | k_is | kernel_rfl | exact rfl)
    (case g_int => first | k_is | kernel_rfl | exact rfl)
    (case g_isinstance => first | k_is | kernel_rfl | exact rfl)
    (case g_len => first | k_is | kernel_rfl | exact rfl)
    (case g_list => first | k_is | kernel_rfl | exact rfl)
    (case g_max => first | k_is | kernel_rfl | exact rfl)
    (case g_range => first | k_is | kernel_rfl | exact rfl)
    (case g_sum => first | k_is | kernel_rfl | exact rfl)
    (case g_super => first | k_is | kernel_rfl | exact rfl)
    (case g_tuple => first | k_is | kernel_rfl | exact rfl)
    (case g_zip => first | k_is | kernel_rfl | exact rfl)
    (case mb_lcm => first | k_is | kernel_rfl | exact rfl)
    (case kt0_0 => first | k_is | kernel_rfl | exact rfl)
    (case kt0_1 => first | k_is | kernel_rfl | exact rfl)
    (case kt0_2 => first | k_is | kernel_rfl | exact rfl)
    (case kt0_3 => first | k_is | kernel_rfl | exact rfl)
    (case kt0_4 => first | k_is | kernel_rfl | exact rfl)
    (case kt0_5 => first | k_is | kernel_rfl | exact rfl)
    (case kt0_6 => first | k_is | kernel_rfl | exact rfl)
    (case kt1_0 => first | k_is | kernel_rfl | exact rfl)
    (case kt1_1 => first | k_is | kernel_rfl | exact rfl)
    (case kt1_2 => first | k_is | kernel_rfl | exact rfl)
    (case kt1_3 => first | k_is | kernel_rfl | exact rfl)
    (case kt1_4 => first | k_is | kernel_rfl | exact rfl)
    (case kt1_5 => first | k_is | kernel_rfl | exact rfl)
    (case kt1_6 => first | k_is | kernel_rfl | exact rfl)
    (case kt2_0 => first | k_is | kernel_rfl | exact rfl)
    (case kt2_1 => first | k_is | kernel_rfl | exact rfl)
    (case kt2_2 => first | k_is | kernel_rfl | exact rfl)
    (case kt2_3 => first | k_is | kernel_rfl | exact rfl)
    (case kt2_4 => first | k_is | kernel_rfl | exact rfl)
    (case kt2_5 => first | k_is | kernel_rfl | exact rfl)
    (case kt2_6 => first | k_is | kernel_rfl | exact rfl)
    (case kt3_0 => first | k_is | kernel_rfl | exact rfl)
    (case kt3_1 => first | k_is | kernel_rfl | exact rfl)
    (case kt3_2 => first | k_is | kernel_rfl | exact rfl)
    (case kt3_3 => first | k_is | kernel_rfl | exact rfl)
    (case kt3_4 => first | k_is | kernel_rfl | exact rfl)
    (case kt3_5 => first | k_is | kernel_rfl | exact rfl)
    (case kt3_6 => first | k_is | kernel_rfl | exact rfl)
    (case kt4_0 => first | k_is | kernel_rfl | exact rfl)
    (case kt4_1 => first | k_is | kernel_rfl | exact rfl)
    (case kt4_2 => first | k_is | kernel_rfl | exact rfl)
    (case kt4_3 => first | k_is | kernel_rfl | exact rfl)
    (case kt4_4 => first | k_is | kernel_rfl | exact rfl)
    (case kt4_5 => first | k_is | kernel_rfl | exact rfl)
    (case kt4_6 => first | k_is | kernel_rfl | exact rfl)
    (case kt5_0 => first | k_is | kernel_rfl | exact rfl)
    (case kt5_1 => first | k_is | kernel_rfl | exact rfl)
    (case kt5_2 => first | k_is | kernel_rfl | exact rfl)
    (case kt5_3 => first | k_is | kernel_rfl | exact rfl)
    (case kt5_4 => first | k_is | kernel_rfl | exact rfl)
    (case kt5_5 => first | k_is | kernel_rfl | exact rfl)
    (case kt5_6 => first | k_is | kernel_rfl | exact rfl)
    (case ko0_0 => first | k_is | kernel_rfl | exact rfl)
    (case ko0_1 => first | k_is | kernel_rfl | exact rfl)
    (case ko0_2 => first | k_is | kernel_rfl | exact rfl)
    (case ko0_3 => first | k_is | kernel_rfl | exact rfl)
    (case ko0_4 => first | k_is | kernel_rfl | exact rfl)
    (case ko0_5 => first | k_is | kernel_rfl | exact rfl)
    (case ko0_6 => first | k_is | kernel_rfl | exact rfl)
    (case ko1_0 => first | k_is | kernel_rfl | exact rfl)
    (case ko1_1 => first | k_is | kernel_rfl | exact rfl)
    (case ko1_2 => first | k_is | kernel_rfl | exact rfl)
    (case ko1_3 => first | k_is | kernel_rfl | exact rfl)
    (case ko1_4 => first | k_is | kernel_rfl | exact rfl)
    (case ko1_5 => first | k_is | kernel_rfl | exact rfl)
    (case ko1_6 => first | k_is | kernel_rfl | exact rfl)
    (case ko2_0 => first | k_is | kernel_rfl | exact rfl)
    (case ko2_1 => first | k_is | kernel_rfl | exact rfl)
    (case ko2_2 => first | k_is | kernel_rfl | exact rfl)
    (case ko2_3 => first | k_is | kernel_rfl | exact rfl)
    (case ko2_4 => first | k_is | kernel_rfl | exact rfl)
    (case ko2_5 => first | k_is | kernel_rfl | exact rfl)
    (case ko2_6 => first | k_is | kernel_rfl | exact rfl)
    (case ko3_0 => first | k_is | kernel_rfl | exact rfl)
    (case ko3_1 => first | k_is | kernel_rfl | exact rfl)
    (case ko3_2 => first | k_is | kernel_rfl | exact rfl)
    (case ko3_3 => first | k_is | kernel_rfl | exact rfl)
    (case ko3_4 => first | k_is | kernel_rfl | exact rfl)
    (case ko3_5 => first | k_is | kernel_rfl | exact rfl)
    (case ko3_6 => first | k_is | kernel_rfl | exact rfl)
    (case ko4_0 => first | k_is | kernel_rfl | exact rfl)
    (case ko4_1 => first | k_is | kernel_rfl | exact rfl)
    (case ko4_2 => first | k_is | kernel_rfl | exact rfl)
    (case ko4_3 => first | k_is | kernel_rfl | exact rfl)
    (case ko4_4 => first | k_is | kernel_rfl | exact rfl)
    (case ko4_5 => first | k_is | kernel_rfl | exact rfl)
    (case ko4_6 => first | k_is | kernel_rfl | exact rfl)
    (case ko5_0 => first | k_is | kernel_rfl | exact rfl)
    (case ko5_1 => first | k_is | kernel_rfl | exact rfl)
    (case ko5_2 => first | k_is | kernel_rfl | exact rfl)
    (case ko5_3 => first | k_is | kernel_rfl | exact rfl)
    (case ko5_4 => first | k_is | kernel_rfl | exact rfl)
    (case ko5_5 => first | k_is | kernel_rfl | exact rfl)
    (case ko5_6 => first | k_is | kernel_rfl | exact rfl)
    (case ko6_0 => first | k_is | kernel_rfl | exact rfl)
    (case ko6_1 => first | k_is | kernel_rfl | exact rfl)
    (case ko6_2 => first | k_is | kernel_rfl | exact rfl)
    (case ko6_3 => first | k_is | kernel_rfl | exact rfl)
    (case ko6_4 => first | k_is | kernel_rfl | exact rfl)
    (case ko6_5 => first | k_is | kernel_rfl | exact rfl)
    (case ko6_6 => first | k_is | kernel_rfl | exact rfl)
    (case xm0_0 => first | k_is | kernel_rfl | exact rfl)
    (case xm0_1 => first | k_is | kernel_rfl | exact rfl)
    (case xm0_2 => first | k_is | kernel_rfl | exact rfl)
    (case xm0_3 => first | k_is | kernel_rfl | exact rfl)
    (case xm0_4 => first | k_is | kernel_rfl | exact rfl)
    (case xm0_5 => first | k_is | kernel_rfl | exact rfl)
    (case xm1_0 => first | k_is | kernel_rfl | exact rfl)
    (case xm1_1 => first | k_is | kernel_rfl | exact rfl)
    (case xm1_2 => first | k_is | kernel_rfl | exact rfl)
    (case xm1_3 => first | k_is | kernel_rfl | exact rfl)
    (case xm1_4 => first | k_is | kernel_rfl | exact rfl)
    (case xm1_5 => first | k_is | kernel_rfl | exact rfl)
    (case xm2_0 => first | k_is | kernel_rfl | exact rfl)
    (case xm2_1 => first | k_is | kernel_rfl | exact rfl)
    (case xm2_2 => first | k_is | kernel_rfl | exact rfl)
    (case xm2_3 => first | k_is | kernel_rfl | exact rfl)
    (case xm2_4 => first | k_is | kernel_rfl | exact rfl)
    (case xm2_5 => first | k_is | kernel_rfl | exact rfl)
    (case xm3_0 => first | k_is | kernel_rfl | exact rfl)
    (case xm3_1 => first | k_is | kernel_rfl | exact rfl)
    (case xm3_2 => first | k_is | kernel_rfl | exact rfl)
    (case xm3_3 => first | k_is | kernel_rfl | exact rfl)
    (case xm3_4 => first | k_is | kernel_rfl | exact rfl)
    (case xm3_5 => first | k_is | kernel_rfl | exact rfl)
    (case xm4_0 => first | k_is | kernel_rfl | exact rfl)
    (case xm4_1 => first | k_is | kernel_rfl | exact rfl)
    (case xm4_2 => first | k_is | kernel_rfl | exact rfl)
    (case xm4_3 => first | k_is | kernel_rfl | exact rfl)
    (case xm4_4 => first | k_is | kernel_rfl | exact rfl)
    (case xm4_5 => first | k_is | kernel_rfl | exact rfl)
    (case xm5_0 => first | k_is | kernel_rfl | exact rfl)
    (case xm5_1 => first | k_is | kernel_rfl | exact rfl)
    (case xm5_2 => first | k_is | kernel_rfl | exact rfl)
    (case xm5_3 => first | k_is | kernel_rfl | exact rfl)
    (case xm5_4 => first | k_is | kernel_rfl | exact rfl)
    (case xm5_5 => first | k_is | kernel_rfl | exact rfl)
    (case xhn => first | k_is | kernel_rfl | exact rfl)
    (case xht => first | k_is | kernel_rfl | exact rfl)
    (case xga0 => first | k_is | kernel_rfl | exact rfl)
    (case xgg0 => first | k_is | kernel_rfl | exact rfl)
    (case xex0 => first | k_is | kernel_rfl | exact rfl)
    (case xhd0 => first | k_is | kernel_rfl | exact rfl)
    (case xcl0 => first | k_is | kernel_rfl | exact rfl)
    (case xha0 => first | k_is | kernel_rfl | exact rfl)
    (case xhm0 => first | k_is | kernel_rfl | exact rfl)
    (case xnv0 => first | k_is | kernel_rfl | exact rfl)
    (case xga1 => first | k_is | kernel_rfl | exact rfl)
    (case xgg1 => first | k_is | kernel_rfl | exact rfl)
    (case xex1 => first | k_is | kernel_rfl | exact rfl)
    (case xhd1 => first | k_is | kernel_rfl | exact rfl)
    (case xcl1 => first | k_is | kernel_rfl | exact rfl)
    (case xha1 => first | k_is | kernel_rfl | exact rfl)
    (case xhm1 => first | k_is | kernel_rfl | exact rfl)
    (case xnv1 => first | k_is | kernel_rfl | exact rfl)
    (case xga2 => first | k_is | kernel_rfl | exact rfl)
    (case xgg2 => first | k_is | kernel_rfl | exact rfl)
    (case xex2 => first | k_is | kernel_rfl | exact rfl)
    (case xhd2 => first | k_is | kernel_rfl | exact rfl)
    (case xcl2 => first | k_is | kernel_rfl | exact rfl)
    (case xha2 => first | k_is | kernel_rfl | exact rfl)
    (case xhm2 => first | k_is | kernel_rfl | exact rfl)
    (case xnv2 => first | k_is | kernel_rfl | exact rfl)
    (case xga3 => first | k_is | kernel_rfl | exact rfl)
    (case xgg3 => first | k_is | kernel_rfl | exact rfl)
    (case xex3 => first | k_is | kernel_rfl | exact rfl)
    (case xhd3 => first | k_is | kernel_rfl | exact rfl)
    (case xcl3 => first | k_is | kernel_rfl | exact rfl)
    (case xha3 => first | k_is | kernel_rfl | exact rfl)
    (case xhm3 => first | k_is | kernel_rfl | exact rfl)
    (case xnv3 => first | k_is | kernel_rfl | exact rfl)
    (case xga4 => first | k_is | kernel_rfl | exact rfl)
    (case xgg4 => first | k_is | kernel_rfl | exact rfl)
    (case xex4 => first | k_is | kernel_rfl | exact rfl)
    (case xhd4 => first | k_is | kernel_rfl | exact rfl)
    (case xcl4 => first | k_is | kernel_rfl | exact rfl)
    (case xha4 => first | k_is | kernel_rfl | exact rfl)
    (case xhm4 => first | k_is | kernel_rfl | exact rfl)
    (case xnv4 => first | k_is | kernel_rfl | exact rfl)
    (case xga5 => first | k_is | kernel_rfl | exact rfl)
    (case xgg5 => first | k_is | kernel_rfl | exact rfl)
    (case xex5 => first | k_is | kernel_rfl | exact rfl)
    (case xhd5 => first | k_is | kernel_rfl | exact rfl)
    (case xcl5 => first | k_is | kernel_rfl | exact rfl)
    (case xha5 => first | k_is | kernel_rfl | exact rfl)
    (case xhm5 => first | k_is | kernel_rfl | exact rfl)
    (case xnv5 => first | k_is | kernel_rfl | exact rfl)
    (case opg6 => first | k_is | kernel_rfl | exact rfl)
    (case ohd6 => first | k_is | kernel_rfl | exact rfl)
    (case opo6 => first | k_is | kernel_rfl | exact rfl)
    (case osa6 => first | k_is | kernel_rfl | exact rfl)
    (case oha6 => first | k_is | kernel_rfl | exact rfl)
    (case ohm6 => first | k_is | kernel_rfl | exact rfl)
    (case ot6_0 => first | k_is | kernel_rfl | exact rfl)
    (case ot6_1 => first | k_is | kernel_rfl | exact rfl)
    (case ot6_2 => first | k_is | kernel_rfl | exact rfl)
    (case ot6_3 => first | k_is | kernel_rfl | exact rfl)
    (case ot6_4 => first | k_is | kernel_rfl | exact rfl)
    (case ot6_5 => first | k_is | kernel_rfl | exact rfl)
    (case nf6__limits => first | k_is | kernel_rfl | exact rfl)
    (case ent => first | k_is | kernel_rfl | exact rfl)
    (case esa1 => first | k_is | kernel_rfl | exact rfl)
    (case eiC1 => first | k_is | kernel_rfl | exact rfl)
    (case etC1 => first | k_is | kernel_rfl | exact rfl)
    (case ekC1 => first | k_is | kernel_rfl | exact rfl)
    (case ety1 => first | k_is | kernel_rfl | exact rfl)
    (case exi1 => first | k_is | kernel_rfl | exact rfl)
    (case esu1 => first | k_is | kernel_rfl | exact rfl)
    (case esV1 => first | k_is | kernel_rfl | exact rfl)
    (case emC1 => first | k_is | kernel_rfl | exact rfl)
    (case esa2 => first | k_is | kernel_rfl | exact rfl)
    (case eiC2 => first | k_is | kernel_rfl | exact rfl)
    (case etC2 => first | k_is | kernel_rfl | exact rfl)
    (case ekC2 => first | k_is | kernel_rfl | exact rfl)
    (case ety2 => first | k_is | kernel_rfl | exact rfl)
    (case exi2 => first | k_is | kernel_rfl | exact rfl)
    (case esu2 => first | k_is | kernel_rfl | exact rfl)
    (case esV2 => first | k_is | kernel_rfl | exact rfl)
    (case emC2 => first | k_is | kernel_rfl | exact rfl)
    (case esa3 => first | k_is | kernel_rfl | exact rfl)
    (case eiC3 => first | k_is | kernel_rfl | exact rfl)
    (case etC3 => first | k_is | kernel_rfl | exact rfl)
    (case ekC3 => first | k_is | kernel_rfl | exact rfl)
    (case ety3 => first | k_is | kernel_rfl | exact rfl)
    (case exi3 => first | k_is | kernel_rfl | exact rfl)
    (case esu3 => first | k_is | kernel_rfl | exact rfl)
    (case esV3 => first | k_is | kernel_rfl | exact rfl)
    (case emC3 => first | k_is | kernel_rfl | exact rfl)
    (case esa4 => first | k_is | kernel_rfl | exact rfl)
    (case eiC4 => first | k_is | kernel_rfl | exact rfl)
    (case etC4 => first | k_is | kernel_rfl | exact rfl)
    (case ekC4 => first | k_is | kernel_rfl | exact rfl)
    (case ety4 => first | k_is | kernel_rfl | exact rfl)
    (case exi4 => first | k_is | kernel_rfl | exact rfl)
    (case esu4 => first | k_is | kernel_rfl | exact rfl)
    (case esV4 => first | k_is | kernel_rfl | exact rfl)
    (case emC4 => first | k_is | kernel_rfl | exact rfl)
    (case esa5 => first | k_is | kernel_rfl | exact rfl)
    (case eiC5 => first | k_is | kernel_rfl | exact rfl)
    (case etC5 => first | k_is | kernel_rfl | exact rfl)
    (case ekC5 => first | k_is | kernel_rfl | exact rfl)
    (case ety5 => first | k_is | kernel_rfl | exact rfl)
    (case exi5 => first | k_is | kernel_rfl | exact rfl)
    (case esu5 => first | k_is | kernel_rfl | exact rfl)
    (case esV5 => first | k_is | kernel_rfl | exact rfl)
    (case emC5 => first | k_is | kernel_rfl | exact rfl)
    (case ec1 => first | k_is | kernel_rfl | exact rfl)
    (case er1 => first | k_is | kernel_rfl | exact rfl)
    (case fl1 => first | k_is | kernel_rfl | exact rfl)
    (case fc1 => first | k_is | kernel_rfl | exact rfl)
    (case fT1 => first | k_is | kernel_rfl | exact rfl)
    (case fp1 => first | k_is | kernel_rfl | exact rfl)
    (case fd1 => first | k_is | kernel_rfl | exact rfl)
    (case fv1 => exact rfl)
    (case ff1 => first | k_is | kernel_rfl | exact rfl)
    (case fk1 => first | k_is | kernel_rfl | exact rfl)
    (case ec2 => first | k_is | kernel_rfl | exact rfl)
    (case er2 => first | k_is | kernel_rfl | exact rfl)
    (case fl2 => first | k_is | kernel_rfl | exact rfl)
    (case fc2 => first | k_is | kernel_rfl | exact rfl)
    (case fT2 => first | k_is | kernel_rfl | exact rfl)
    (case fp2 => first | k_is | kernel_rfl | exact rfl)
    (case fd2 => first | k_is | kernel_rfl | exact rfl)
    (case fv2 => exact rfl)
    (case ff2 => first | k_is | kernel_rfl | exact rfl)
    (case fk2 => first | k_is | kernel_rfl | exact rfl)
    (case ec3 => first | k_is | kernel_rfl | exact rfl)
    (case er3 => first | k_is | kernel_rfl | exact rfl)
    (case fl3 => first | k_is | kernel_rfl | exact rfl)
    (case fc3 => first | k_is | kernel_rfl | exact rfl)
    (case fT3 => first | k_is | kernel_rfl | exact rfl)
    (case fp3 => first | k_is | kernel_rfl | exact rfl)
    (case fd3 => first | k_is | kernel_rfl | exact rfl)
    (case fv3 => exact rfl)
    (case ff3 => first | k_is | kernel_rfl | exact rfl)
    (case fk3 => first | k_is | kernel_rfl | exact rfl)
    (case ec4 => first | k_is | kernel_rfl | exact rfl)
    (case er4 => first | k_is | kernel_rfl | exact rfl)
    (case fl4 => first | k_is | kernel_rfl | exact rfl)
    (case fc4 => first | k_is | kernel_rfl | exact rfl)
    (case fT4 => first | k_is | kernel_rfl | exact rfl)
    (case fp4 => first | k_is | kernel_rfl | exact rfl)
    (case fd4 => first | k_is | kernel_rfl | exact rfl)
    (case fv4 => exact rfl)
    (case ff4 => first | k_is | kernel_rfl | exact rfl)
    (case fk4 => first | k_is | kernel_rfl | exact rfl)
    (case ec5 => first | k_is | kernel_rfl | exact rfl)
    (case er5 => first | k_is | kernel_rfl | exact rfl)
    (case fl5 => first | k_is | kernel_rfl | exact rfl)
    (case fc5 => first | k_is | kernel_rfl | exact rfl)
    (case fT5 => first | k_is | kernel_rfl | exact rfl)
    (case fp5 => first | k_is | kernel_rfl | exact rfl)
    (case fd5 => first | k_is | kernel_rfl | exact rfl)
    (case fv5 => exact rfl)
    (case ff5 => first | k_is | kernel_rfl | exact rfl)
    (case fk5 => first | k_is | kernel_rfl | exact rfl)
    (case etop => first | k_is | kernel_rfl | exact rfl)
    (case mk_Grid => first | k_is | kernel_rfl | exact rfl)
    (case kp_Grid => first | k_is | kernel_rfl | exact rfl)
    (case nn0_Grid => first | k_is | kernel_rfl | exact rfl)
    (case nn1_Grid => first | k_is | kernel_rfl | exact rfl)
    (case nn2_Grid => first | k_is | kernel_rfl | exact rfl)
    (case nn3_Grid => first | k_is | kernel_rfl | exact rfl)
    (case nn4_Grid => first | k_is | kernel_rfl | exact rfl)
    (case nn5_Grid => first | k_is | kernel_rfl | exact rfl)
    (case dis_whole_a => first | k_is | kernel_rfl)
    (case dis_whole_l => first | k_is | kernel_rfl)
    (case dis_whole_c => first | k_is | kernel_rfl)
    (case dis_whole_k => first | k_is | kernel_rfl)
    (case dis_between_a => first | k_is | kernel_rfl)
    (case dis_between_l => first | k_is | kernel_rfl)
    (case dis_between_c => first | k_is | kernel_rfl)
    (case dis_between_k => first | k_is | kernel_rfl)
    (case dare_counts_a => first | k_is | kernel_rfl)
    (case dare_counts_l => first | k_is | kernel_rfl)
    (case dare_counts_c => first | k_is | kernel_rfl)
    (case dare_counts_k => first | k_is | kernel_rfl)
    (case dis_point_a => first | k_is | kernel_rfl)
    (case dis_point_l => first | k_is | kernel_rfl)
    (case dis_point_c => first | k_is | kernel_rfl)
    (case dis_point_k => first | k_is | kernel_rfl)
    (case dcheck_point_a => first | k_is | kernel_rfl)
    (case dcheck_point_l => first | k_is | kernel_rfl)
    (case dcheck_point_c => first | k_is | kernel_rfl)
    (case dcheck_point_k => first | k_is | kernel_rfl)
    (case dis_limit_a => first | k_is | kernel_rfl)
    (case dis_limit_l => first | k_is | kernel_rfl)
    (case dis_limit_c => first | k_is | kernel_rfl)
    (case dis_limit_k => first | k_is | kernel_rfl)
    (case dclass_count_a => first | k_is | kernel_rfl)
    (case dclass_count_l => first | k_is | kernel_rfl)
    (case dclass_count_c => first | k_is | kernel_rfl)
    (case dclass_count_k => first | k_is | kernel_rfl)
    (case dleast_count_a => first | k_is | kernel_rfl)
    (case dleast_count_l => first | k_is | kernel_rfl)
    (case dleast_count_c => first | k_is | kernel_rfl)
    (case dleast_count_k => first | k_is | kernel_rfl)
    (case dreduced_a => first | k_is | kernel_rfl)
    (case dreduced_l => first | k_is | kernel_rfl)
    (case dreduced_c => first | k_is | kernel_rfl)
    (case dreduced_k => first | k_is | kernel_rfl)
    (case dmeeting_limits_a => first | k_is | kernel_rfl)
    (case dmeeting_limits_l => first | k_is | kernel_rfl)
    (case dmeeting_limits_c => first | k_is | kernel_rfl)
    (case dmeeting_limits_k => first | k_is | kernel_rfl)
    (case dGrid___init___a => first | k_is | kernel_rfl)
    (case dGrid___init___t => first | k_is | kernel_rfl)
    (case dGrid___init___l => first | k_is | kernel_rfl)
    (case dGrid___init___c => first | k_is | kernel_rfl)
    (case dGrid___init___k => first | k_is | kernel_rfl)
    (case dGrid_many_a => first | k_is | kernel_rfl)
    (case dGrid_many_t => first | k_is | kernel_rfl)
    (case dGrid_many_l => first | k_is | kernel_rfl)
    (case dGrid_many_c => first | k_is | kernel_rfl)
    (case dGrid_many_k => first | k_is | kernel_rfl)
    (case dGrid_limits_a => first | k_is | kernel_rfl)
    (case dGrid_limits_t => first | k_is | kernel_rfl)
    (case dGrid_limits_l => first | k_is | kernel_rfl)
    (case dGrid_limits_c => first | k_is | kernel_rfl)
    (case dGrid_limits_k => first | k_is | kernel_rfl)
    (case dGrid___eq___a => first | k_is | kernel_rfl)
    (case dGrid___eq___t => first | k_is | kernel_rfl)
    (case dGrid___eq___l => first | k_is | kernel_rfl)
    (case dGrid___eq___c => first | k_is | kernel_rfl)
    (case dGrid___eq___k => first | k_is | kernel_rfl)
    (case dcheck_grid_a => first | k_is | kernel_rfl)
    (case dcheck_grid_l => first | k_is | kernel_rfl)
    (case dcheck_grid_c => first | k_is | kernel_rfl)
    (case dcheck_grid_k => first | k_is | kernel_rfl)
    (case dcheck_two_grids_a => first | k_is | kernel_rfl)
    (case dcheck_two_grids_l => first | k_is | kernel_rfl)
    (case dcheck_two_grids_c => first | k_is | kernel_rfl)
    (case dcheck_two_grids_k => first | k_is | kernel_rfl)
    (case dclass_of_a => first | k_is | kernel_rfl)
    (case dclass_of_l => first | k_is | kernel_rfl)
    (case dclass_of_c => first | k_is | kernel_rfl)
    (case dclass_of_k => first | k_is | kernel_rfl)
    (case dlimits_refine_a => first | k_is | kernel_rfl)
    (case dlimits_refine_l => first | k_is | kernel_rfl)
    (case dlimits_refine_c => first | k_is | kernel_rfl)
    (case dlimits_refine_k => first | k_is | kernel_rfl)
    (case drefines_a => first | k_is | kernel_rfl)
    (case drefines_l => first | k_is | kernel_rfl)
    (case drefines_c => first | k_is | kernel_rfl)
    (case drefines_k => first | k_is | kernel_rfl)
    (case dmeeting_a => first | k_is | kernel_rfl)
    (case dmeeting_l => first | k_is | kernel_rfl)
    (case dmeeting_c => first | k_is | kernel_rfl)
    (case dmeeting_k => first | k_is | kernel_rfl)
    (case d_law_hash_a => first | k_is | kernel_rfl)
    (case d_law_hash_l => first | k_is | kernel_rfl)
    (case d_law_hash_c => first | k_is | kernel_rfl)
    (case d_law_hash_k => first | k_is | kernel_rfl)
    (case d_law_random_a => first | k_is | kernel_rfl)
    (case d_law_random_l => first | k_is | kernel_rfl)
    (case d_law_random_c => first | k_is | kernel_rfl)
    (case d_law_random_k => first | k_is | kernel_rfl)
    (case d_law_generator_a => first | k_is | kernel_rfl)
    (case d_law_generator_l => first | k_is | kernel_rfl)
    (case d_law_generator_c => first | k_is | kernel_rfl)
    (case d_law_generator_k => first | k_is | kernel_rfl)
    (case d_law_limits_a => first | k_is | kernel_rfl)
    (case d_law_limits_l => first | k_is | kernel_rfl)
    (case d_law_limits_c => first | k_is | kernel_rfl)
    (case d_law_limits_k => first | k_is | kernel_rfl)
    (case d_law_box_a => first | k_is | kernel_rfl)
    (case d_law_box_l => first | k_is | kernel_rfl)
    (case d_law_box_c => first | k_is | kernel_rfl)
    (case d_law_box_k => first | k_is | kernel_rfl)
    (case d_law_classes_a => first | k_is | kernel_rfl)
    (case d_law_classes_l => first | k_is | kernel_rfl)
    (case d_law_classes_c => first | k_is | kernel_rfl)
    (case d_law_classes_k => first | k_is | kernel_rfl)
    (case d_law_least_a => first | k_is | kernel_rfl)
    (case d_law_least_l => first | k_is | kernel_rfl)
    (case d_law_least_c => first | k_is | kernel_rfl)
    (case d_law_least_k => first | k_is | kernel_rfl)
    (case d_law_class_a => first | k_is | kernel_rfl)
    (case d_law_class_l => first | k_is | kernel_rfl)
    (case d_law_class_c => first | k_is | kernel_rfl)
    (case d_law_class_k => first | k_is | kernel_rfl)
    (case d_law_yes_a => first | k_is | kernel_rfl)
    (case d_law_yes_l => first | k_is | kernel_rfl)
    (case d_law_yes_c => first | k_is | kernel_rfl)
    (case d_law_yes_k => first | k_is | kernel_rfl)
    (case d_law_gcd_a => first | k_is | kernel_rfl)
    (case d_law_gcd_l => first | k_is | kernel_rfl)
    (case d_law_gcd_c => first | k_is | kernel_rfl)
    (case d_law_gcd_k => first | k_is | kernel_rfl)
    (case d_law_lcm_a => first | k_is | kernel_rfl)
    (case d_law_lcm_l => first | k_is | kernel_rfl)
    (case d_law_lcm_c => first | k_is | kernel_rfl)
    (case d_law_lcm_k => first | k_is | kernel_rfl)
    (case d_law_put_at_a => first | k_is | kernel_rfl)
    (case d_law_put_at_l => first | k_is | kernel_rfl)
    (case d_law_put_at_c => first | k_is | kernel_rfl)
    (case d_law_put_at_k => first | k_is | kernel_rfl)
    (case d_law_many_a => first | k_is | kernel_rfl)
    (case d_law_many_l => first | k_is | kernel_rfl)
    (case d_law_many_c => first | k_is | kernel_rfl)
    (case d_law_many_k => first | k_is | kernel_rfl)
    (case d_law_other_a => first | k_is | kernel_rfl)
    (case d_law_other_l => first | k_is | kernel_rfl)
    (case d_law_other_c => first | k_is | kernel_rfl)
    (case d_law_other_k => first | k_is | kernel_rfl)
    (case d_law_refines_a => first | k_is | kernel_rfl)
    (case d_law_refines_l => first | k_is | kernel_rfl)
    (case d_law_refines_c => first | k_is | kernel_rfl)
    (case d_law_refines_k => first | k_is | kernel_rfl)
    (case d_law_meeting_a => first | k_is | kernel_rfl)
    (case d_law_meeting_l => first | k_is | kernel_rfl)
    (case d_law_meeting_c => first | k_is | kernel_rfl)
    (case d_law_meeting_k => first | k_is | kernel_rfl)
    (case d_law_lies_within_a => first | k_is | kernel_rfl)
    (case d_law_lies_within_l => first | k_is | kernel_rfl)
    (case d_law_lies_within_c => first | k_is | kernel_rfl)
    (case d_law_lies_within_k => first | k_is | kernel_rfl)
    (case d_law_pair_good_a => first | k_is | kernel_rfl)
    (case d_law_pair_good_l => first | k_is | kernel_rfl)
    (case d_law_pair_good_c => first | k_is | kernel_rfl)
    (case d_law_pair_good_k => first | k_is | kernel_rfl)
    (case d_law_caught_a => first | k_is | kernel_rfl)
    (case d_law_caught_l => first | k_is | kernel_rfl)
    (case d_law_caught_c => first | k_is | kernel_rfl)
    (case d_law_caught_k => first | k_is | kernel_rfl)
    (case dlaw_a => first | k_is | kernel_rfl)
    (case dlaw_l => first | k_is | kernel_rfl)
    (case dlaw_c => first | k_is | kernel_rfl)
    (case dlaw_k => first | k_is | kernel_rfl)
#print axioms PySem.Challenge.cw_openloops_k10_grids_that_refine_holds

