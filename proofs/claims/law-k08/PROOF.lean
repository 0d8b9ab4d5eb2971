import PyProof.Rows.All
import Wide.All
import OpenK.AllK
import Wide.FinOn
import HandS.ForMost
import HandS.ForExc
import HandS.CallSlots
import HandS.Wide
import HandS.Defaults
import HandS.Style
import HandS.IsInst
import HandS.TupMul
import HandS.Flow
import HandS.TupAny
import PyProof.Rows.RuleB_pow
import HandS.WideBits
import PyProof.ReprReads
import HandS.Zip
import HandS.Zip0
import PyProof.ZipIter
import PyProof.EqAt
import PyProof.EqKinds
import PyProof.TupleCall
import Open.SpecLaws
import KE.OsGo
import HandS.ForSpec
import HandS.ExcSuper
import HandS.ExcInit
import KE.KSuper
import KE.KExcSuper
import KE.KExcIs
import HandS.OwnEq
import KE.KMathGC
import HandS.ExcField
import HandS.Text
import HandS.StrMore
import HandS.Iter
import PyProof.StrOps2
import KE.KTupSum
import PyProof.ReprLen
import PyProof.Rows.StrCut
import PyProof.Rows.RegReprOcc
import HandS.ExcValue
import PySem.Challenge.RW_openloops_k08_errors_by_their_classes
set_option Elab.async false
set_option linter.all false
set_option maxRecDepth 100000
set_option maxHeartbeats 4000000
namespace FL
open PySem PySem.Spec PyProof.Rows L2

/-- plain data: what is never changed once it is made -/
inductive D where
  | non | bl (b : Bool) | int (i : Int) | str (x : Str) | ty (n : String) | adr (a : Addr)
  | tup (xs : List D) | lst (xs : List D) | scr (ns : List Int) | cls (c : Nat)
  | obj (c : Nat) (ns : List Str) (vs : List D)
  | exc (c : Nat) (ns : List Str) (vs : List D)
/-- a value: data, or a changing object of the store -/
inductive Xv where
  | d (x : D) | ref (i : Nat)
/-- a changing object -/
inductive O where
  | dead | lst (xs : List D) | ins (c : Nat) (ns : List Str) (vs : List D)
abbrev Env' := List (Option Xv)
abbrev Sto := List O
inductive Res where
  | ok (v : Xv) (s : Sto) | exc (e : D) (s : Sto) | stuck
inductive Out where
  | nx (r : Env') (s : Sto) | rt (v : Xv) (s : Sto) | bk (r : Env') (s : Sto) | ct (r : Env') (s : Sto) | exc (e : D) (r : Env') (s : Sto) | stuck
inductive ResL where
  | ok (v : List Xv) (s : Sto) | exc (e : D) (s : Sto) | stuck
abbrev FE := Env' → Sto → Res
abbrev FA := Env' → Sto → ResL
abbrev FS := Env' → Sto → Out

/-- the text's facts: the written part, its classes by number -/
structure Tx where
  K : PySem.W.Frag
  ct : Nat → Addr
  n : Nat
  sub : Nat → Nat → Bool
structure Wd where
  G : Hp
  Z : Hp
  io : List Addr
/-- an exception's object -/
def ExA (cls : Value) (d : Option Addr) (a : Addr) : HO := .ext fun h => ∃ (oe : Obj), h.get? a = some oe ∧ Zc cls d oe ∧ ∃ vs, oe.data = .fields vs

section
variable (T : Tx)
mutual
def R (G : Hp) : D → V → Prop
  | .non, v => v = .non
  | .bl b, v => v = .bl b
  | .int i, v => v = .int i
  | .str x, v => v = .str x
  | .ty n, v => v = .ty n
  | .adr a, v => v = .ref a
  | .cls c, v => v = .ref (T.ct c)
  | .tup xs, v => ∃ a vs, v = .ref a ∧ SqT T.K G a vs ∧ Rs G xs vs
  | .lst xs, v => ∃ a vs, v = .ref a ∧ G a = some (.lst vs) ∧ Rs G xs vs
  | .scr ns, v => ∃ a, v = .ref a ∧ SqL T.K G a (ns.map V.int)
  | .obj c ns xs, v => ∃ a dx fs, v = .ref a ∧ G a = some (.ins (T.ct c) dx fs) ∧ fs.map (·.1) = ns ∧ Rs G xs (fs.map (·.2))
  | .exc c ns xs, v => ∃ a d fs, v = .ref a ∧ G a = some (ExA (.ref (T.ct c)) d a) ∧ ((d = none ∧ ns = []) ∨ ∃ dd, d = some dd ∧ G dd = some (.xd fs)) ∧ fs.map (·.1) = ns ∧ Rs G xs (fs.map (·.2))
def Rs (G : Hp) : List D → List V → Prop
  | [], vs => vs = []
  | d :: ds, vs => ∃ v r, vs = v :: r ∧ R G d v ∧ Rs G ds r
end
def RX (w : Wd) : Xv → V → Prop
  | .d x, v => R T w.G x v
  | .ref i, v => ∃ a, w.io[i]? = some a ∧ v = .ref a
def RXs (w : Wd) : List Xv → List V → Prop
  | [], vs => vs = []
  | d :: ds, vs => ∃ v r, vs = v :: r ∧ RX T w d v ∧ RXs w ds r
def RO (G : Hp) : O → HO → Prop
  | .dead, _ => True
  | .lst xs, ho => ∃ vs, ho = .lst vs ∧ Rs T G xs vs
  | .ins c ns xs, ho => ∃ dx fs, ho = .ins (T.ct c) dx fs ∧ fs.map (·.1) = ns ∧ Rs T G xs (fs.map (·.2))
structure RS (w : Wd) (s : List O) (H : Hp) : Prop where
  g : Same w.G H
  z : Same w.Z H
  gz : ∀ a o, w.Z a = some o → w.G a = none
  len : w.io.length = s.length
  live : ∀ (i : Nat) (o : O) (a : Addr), s[i]? = some o → o ≠ .dead → w.io[i]? = some a → ∃ ho, H a = some ho ∧ RO T w.G o ho ∧ w.G a = none ∧ w.Z a = none
  inj : ∀ (i j : Nat) (o u : O) (a : Addr), s[i]? = some o → o ≠ .dead → s[j]? = some u → u ≠ .dead → w.io[i]? = some a → w.io[j]? = some a → i = j
structure RE (w : Wd) (r : List (Option Xv)) (st : L2.St) : Prop where
  len : r.length = st.length
  at_ : ∀ (i : Nat) (v : Xv), r[i]? = some (some v) → ∃ u, st[i]? = some (some u) ∧ RX T w v u
end
structure Le (w w' : Wd) : Prop where
  g : Same w.G w'.G
  z : w'.Z = w.Z
  io : ∃ t, w'.io = w.io ++ t
theorem Le.refl (w : Wd) : Le w w := ⟨Same.refl _, rfl, [], by simp⟩
theorem Le.trans {a b c : Wd} (h : Le a b) (k : Le b c) : Le a c := ⟨h.g.trans k.g, k.z.trans h.z, by
  obtain ⟨t, e⟩ := h.io
  obtain ⟨u, f⟩ := k.io
  exact ⟨t ++ u, by rw [f, e, List.append_assoc]⟩⟩
theorem Le.at {w w' : Wd} (h : Le w w') {i : Nat} {a : Addr} (e : w.io[i]? = some a) : w'.io[i]? = some a := by
  obtain ⟨t, q⟩ := h.io
  rw [q, List.getElem?_append_left (List.getElem?_eq_some_iff.mp e).1]
  exact e
theorem sqT_mono {K : PySem.W.Frag} {G G' : Hp} (h : Same G G') {a : Addr} {xs : List V} (e : SqT K G a xs) : SqT K G' a xs := by
  rcases e with (e | ⟨o, e⟩) | e
  · exact .inl (.inl (h _ _ e))
  · exact .inl (.inr ⟨o, h _ _ e⟩)
  · exact .inr e
section
variable {T : Tx}
mutual
theorem R.mono {G G' : Hp} (h : Same G G') : ∀ {x : D} {v : V}, R T G x v → R T G' x v
  | .non, _, e => by unfold R at e ⊢; exact e
  | .bl _, _, e => by unfold R at e ⊢; exact e
  | .int _, _, e => by unfold R at e ⊢; exact e
  | .str _, _, e => by unfold R at e ⊢; exact e
  | .ty _, _, e => by unfold R at e ⊢; exact e
  | .adr _, _, e => by unfold R at e ⊢; exact e
  | .cls _, _, e => by unfold R at e ⊢; exact e
  | .tup xs, _, e => by
    unfold R at e ⊢
    obtain ⟨a, vs, e1, e2, e3⟩ := e
    exact ⟨a, vs, e1, sqT_mono h e2, Rs.mono h e3⟩
  | .lst xs, _, e => by
    unfold R at e ⊢
    obtain ⟨a, vs, e1, e2, e3⟩ := e
    exact ⟨a, vs, e1, h _ _ e2, Rs.mono h e3⟩
  | .scr ns, _, e => by
    unfold R at e ⊢
    obtain ⟨a, e1, e2⟩ := e
    exact ⟨a, e1, h.seq e2⟩
  | .obj c ns xs, _, e => by
    unfold R at e ⊢
    obtain ⟨a, dx, fs, e1, e2, e3, e4⟩ := e
    exact ⟨a, dx, fs, e1, h _ _ e2, e3, Rs.mono h e4⟩
  | .exc c ns xs, _, e => by
    unfold R at e ⊢
    obtain ⟨a, d, fs, e1, e2, e3, e4, e5⟩ := e
    refine ⟨a, d, fs, e1, h _ _ e2, ?_, e4, Rs.mono h e5⟩
    rcases e3 with e3 | ⟨dd, e3, e6⟩
    · exact .inl e3
    · exact .inr ⟨dd, e3, h _ _ e6⟩
theorem Rs.mono {G G' : Hp} (h : Same G G') : ∀ {xs : List D} {vs : List V}, Rs T G xs vs → Rs T G' xs vs
  | [], _, e => by unfold Rs at e ⊢; exact e
  | d :: ds, _, e => by
    unfold Rs at e ⊢
    obtain ⟨v, r, e1, e2, e3⟩ := e
    exact ⟨v, r, e1, R.mono h e2, Rs.mono h e3⟩
end
theorem RX.mono {w w' : Wd} (h : Le w w') : ∀ {x : Xv} {v : V}, RX T w x v → RX T w' x v
  | .d x, _, e => R.mono h.g e
  | .ref i, _, ⟨a, e1, e2⟩ => ⟨a, h.at e1, e2⟩
theorem RXs.mono {w w' : Wd} (h : Le w w') : ∀ {xs : List Xv} {vs : List V}, RXs T w xs vs → RXs T w' xs vs
  | [], _, e => e
  | _ :: _, _, ⟨v, r, e1, e2, e3⟩ => ⟨v, r, e1, e2.mono h, e3.mono h⟩
theorem RE.mono {w w' : Wd} (h : Le w w') {r : Env'} {st : L2.St} (e : RE T w r st) : RE T w' r st := ⟨e.len, fun i v q => by
  obtain ⟨u, e1, e2⟩ := e.at_ i v q
  exact ⟨u, e1, e2.mono h⟩⟩
theorem RO.mono {G G' : Hp} (h : Same G G') : ∀ {o : O} {ho : HO}, RO T G o ho → RO T G' o ho
  | .dead, _, _ => True.intro
  | .lst _, _, ⟨vs, e1, e2⟩ => ⟨vs, e1, Rs.mono h e2⟩
  | .ins _ _ _, _, ⟨dx, fs, e1, e2, e3⟩ => ⟨dx, fs, e1, e2, Rs.mono h e3⟩
theorem Rs.length {G : Hp} : ∀ {xs : List D} {vs : List V}, Rs T G xs vs → xs.length = vs.length
  | [], _, e => by unfold Rs at e; subst e; rfl
  | d :: ds, _, e => by
    unfold Rs at e
    obtain ⟨v, r, e1, e2, e3⟩ := e
    subst e1
    simp [Rs.length e3]
theorem RXs.length {w : Wd} : ∀ {xs : List Xv} {vs : List V}, RXs T w xs vs → xs.length = vs.length
  | [], _, e => by
    have e' : _ = [] := e
    subst e'; rfl
  | d :: ds, _, e => by
    obtain ⟨v, r, e1, e2, e3⟩ := e
    subst e1
    simp [RXs.length e3]
theorem Rs.get {G : Hp} : ∀ {xs : List D} {vs : List V} {i : Nat} {x : D}, Rs T G xs vs → xs[i]? = some x → ∃ v, vs[i]? = some v ∧ R T G x v
  | [], _, _, _, _, h => by simp at h
  | d :: ds, _, 0, x, e, h => by
    unfold Rs at e
    obtain ⟨v, r, e1, e2, e3⟩ := e
    subst e1
    simp at h
    subst h
    exact ⟨v, rfl, e2⟩
  | d :: ds, _, i + 1, x, e, h => by
    unfold Rs at e
    obtain ⟨v, r, e1, e2, e3⟩ := e
    subst e1
    obtain ⟨u, q1, q2⟩ := Rs.get (i := i) (x := x) e3 (by simpa using h)
    exact ⟨u, by simpa using q1, q2⟩
theorem Rs.append {G : Hp} : ∀ {xs ys : List D} {vs us : List V}, Rs T G xs vs → Rs T G ys us → Rs T G (xs ++ ys) (vs ++ us)
  | [], ys, vs, us, e, h => by unfold Rs at e; subst e; exact h
  | d :: ds, ys, vs, us, e, h => by
    unfold Rs at e
    obtain ⟨v, r, e1, e2, e3⟩ := e
    subst e1
    show Rs T G (d :: (ds ++ ys)) _
    unfold Rs
    exact ⟨v, r ++ us, rfl, e2, Rs.append e3 h⟩
theorem Rs.one {G : Hp} {x : D} {v : V} (h : R T G x v) : Rs T G [x] [v] := by
  unfold Rs
  exact ⟨v, [], rfl, h, by unfold Rs; rfl⟩
theorem Rs.set {G : Hp} {y : D} {u : V} (h : R T G y u) : ∀ {xs : List D} {vs : List V} (i : Nat), Rs T G xs vs → Rs T G (xs.set i y) (vs.set i u)
  | [], vs, i, e => by unfold Rs at e; subst e; show Rs T G [] []; unfold Rs; rfl
  | d :: ds, vs, 0, e => by
    unfold Rs at e
    obtain ⟨v, r, e1, e2, e3⟩ := e
    subst e1
    show Rs T G (y :: ds) (u :: r)
    unfold Rs
    exact ⟨u, r, rfl, h, e3⟩
  | d :: ds, vs, i + 1, e => by
    unfold Rs at e
    obtain ⟨v, r, e1, e2, e3⟩ := e
    subst e1
    show Rs T G (d :: ds.set i y) (v :: r.set i u)
    unfold Rs
    exact ⟨v, r.set i u, rfl, e2, Rs.set h i e3⟩
theorem Rs.take {G : Hp} : ∀ {xs : List D} {vs : List V} (n : Nat), Rs T G xs vs → Rs T G (xs.take n) (vs.take n)
  | xs, vs, 0, e => by simp; unfold Rs; rfl
  | [], vs, n + 1, e => by unfold Rs at e; subst e; show Rs T G [] []; unfold Rs; rfl
  | d :: ds, vs, n + 1, e => by
    unfold Rs at e
    obtain ⟨v, r, e1, e2, e3⟩ := e
    subst e1
    show Rs T G (d :: ds.take n) (v :: r.take n)
    unfold Rs
    exact ⟨v, r.take n, rfl, e2, Rs.take n e3⟩
theorem Rs.drop {G : Hp} : ∀ {xs : List D} {vs : List V} (n : Nat), Rs T G xs vs → Rs T G (xs.drop n) (vs.drop n)
  | xs, vs, 0, e => e
  | [], vs, n + 1, e => by unfold Rs at e; subst e; show Rs T G [] []; unfold Rs; rfl
  | d :: ds, vs, n + 1, e => by
    unfold Rs at e
    obtain ⟨v, r, e1, e2, e3⟩ := e
    subst e1
    show Rs T G (ds.drop n) (r.drop n)
    exact Rs.drop n e3
theorem Rs.cons {G : Hp} {x : D} {xs : List D} {v : V} {vs : List V} (h : R T G x v) (k : Rs T G xs vs) : Rs T G (x :: xs) (v :: vs) := by
  unfold Rs
  exact ⟨v, vs, rfl, h, k⟩
theorem RXs.cons {w : Wd} {x : Xv} {xs : List Xv} {v : V} {vs : List V} (h : RX T w x v) (k : RXs T w xs vs) : RXs T w (x :: xs) (v :: vs) := ⟨v, vs, rfl, h, k⟩

/-! ### the readings -/
/-- an exception's data, its class and its dict -/
def RExc (T : Tx) (w : Wd) (e : D) (cls : Value) (d : Option Addr) : Prop :=
  ∃ c ns xs fs, e = .exc c ns xs ∧ cls = .ref (T.ct c) ∧ ((d = none ∧ ns = []) ∨ ∃ dd, d = some dd ∧ w.G dd = some (.xd fs)) ∧ fs.map (·.1) = ns ∧ Rs T w.G xs (fs.map (·.2))
def PostE (T : Tx) (W : WX) (st : L2.St) (w : Wd) (r : Res) (Q : VK) : Prop := match r with
  | .ok v s => ∀ w' u H', Le w w' → RX T w' v u → RS T w' s H' → Q u H'
  | .exc e s => ∀ w' cls d H', Le w w' → RExc T w' e cls d → RS T w' s H' → W cls d st H'
  | .stuck => False
def rdE (T : Tx) (W : WX) (f : FE) : TE := fun st H Q => ∃ w r s, RE T w r st ∧ RS T w s H ∧ PostE T W st w (f r s) Q
def PostA (T : Tx) (W : WX) (st : L2.St) (w : Wd) (r : ResL) (Q : List V → Hp → Prop) : Prop := match r with
  | .ok v s => ∀ w' u H', Le w w' → RXs T w' v u → RS T w' s H' → Q u H'
  | .exc e s => ∀ w' cls d H', Le w w' → RExc T w' e cls d → RS T w' s H' → W cls d st H'
  | .stuck => False
def rdA (T : Tx) (W : WX) (f : FA) : TA := fun st H Q => ∃ w r s, RE T w r st ∧ RS T w s H ∧ PostA T W st w (f r s) Q
/-- a value's truth -/
def truth : Xv → Sto → Option Bool
  | .d .non, _ => some false
  | .d (.bl b), _ => some b
  | .d (.int i), _ => some (i != 0)
  | .d (.tup xs), _ => some (!xs.isEmpty)
  | .d (.lst xs), _ => some (!xs.isEmpty)
  | _, _ => none
def PostT (T : Tx) (W : WX) (st : L2.St) (w : Wd) (r : Res) (Q : Bool → Hp → Prop) : Prop := match r with
  | .ok v s => ∃ b, truth v s = some b ∧ ∀ w' H', Le w w' → RS T w' s H' → Q b H'
  | .exc e s => ∀ w' cls d H', Le w w' → RExc T w' e cls d → RS T w' s H' → W cls d st H'
  | .stuck => False
def rdT (T : Tx) (W : WX) (f : FE) : TT := fun st H Q => ∃ w r s, RE T w r st ∧ RS T w s H ∧ PostT T W st w (f r s) Q
def PostS (T : Tx) (W : WX) (w : Wd) (o : Out) (E : Ends) : Prop := match o with
  | .nx r s => ∀ w' st H', Le w w' → RE T w' r st → RS T w' s H' → E.nx st H'
  | .rt v s => ∀ w' u H', Le w w' → RX T w' v u → RS T w' s H' → E.rt u H'
  | .bk r s => ∀ w' st H', Le w w' → RE T w' r st → RS T w' s H' → E.bk st H'
  | .ct r s => ∀ w' st H', Le w w' → RE T w' r st → RS T w' s H' → E.ct st H'
  | .exc e r s => ∀ w' cls d st H', Le w w' → RExc T w' e cls d → RE T w' r st → RS T w' s H' → W cls d st H'
  | .stuck => False
def rdS (T : Tx) (W : WX) (f : FS) : TS := fun E st H => ∃ w r s, RE T w r st ∧ RS T w s H ∧ PostS T W w (f r s) E

theorem PostE.mono {W : WX} {st : L2.St} {w w' : Wd} {r : Res} {Q : VK} (h : Le w w') (p : PostE T W st w r Q) : PostE T W st w' r Q := by
  cases r with
  | ok v s => exact fun w1 u H' l => p w1 u H' (h.trans l)
  | exc e s => exact fun w1 c d H' l => p w1 c d H' (h.trans l)
  | stuck => exact p
theorem PostA.mono {W : WX} {st : L2.St} {w w' : Wd} {r : ResL} {Q : List V → Hp → Prop} (h : Le w w') (p : PostA T W st w r Q) : PostA T W st w' r Q := by
  cases r with
  | ok v s => exact fun w1 u H' l => p w1 u H' (h.trans l)
  | exc e s => exact fun w1 c d H' l => p w1 c d H' (h.trans l)
  | stuck => exact p
theorem PostT.mono {W : WX} {st : L2.St} {w w' : Wd} {r : Res} {Q : Bool → Hp → Prop} (h : Le w w') (p : PostT T W st w r Q) : PostT T W st w' r Q := by
  cases r with
  | ok v s =>
    obtain ⟨b, e, q⟩ := p
    exact ⟨b, e, fun w1 H' l => q w1 H' (h.trans l)⟩
  | exc e s => exact fun w1 c d H' l => p w1 c d H' (h.trans l)
  | stuck => exact p
theorem PostS.mono {W : WX} {w w' : Wd} {o : Out} {E : Ends} (h : Le w w') (p : PostS T W w o E) : PostS T W w' o E := by
  cases o with
  | nx r s => exact fun w1 st H' l => p w1 st H' (h.trans l)
  | rt v s => exact fun w1 st H' l => p w1 st H' (h.trans l)
  | bk r s => exact fun w1 st H' l => p w1 st H' (h.trans l)
  | ct r s => exact fun w1 st H' l => p w1 st H' (h.trans l)
  | exc e r s => exact fun w1 c d st H' l => p w1 c d st H' (h.trans l)
  | stuck => exact p

/-! ### one thing after another -/
def Res.bind (r : Res) (k : Xv → Sto → Res) : Res := match r with
  | .ok v s => k v s
  | .exc e s => .exc e s
  | .stuck => .stuck
def Res.bindA (r : Res) (k : Xv → Sto → ResL) : ResL := match r with
  | .ok v s => k v s
  | .exc e s => .exc e s
  | .stuck => .stuck
def ResL.bind (r : ResL) (k : List Xv → Sto → Res) : Res := match r with
  | .ok v s => k v s
  | .exc e s => .exc e s
  | .stuck => .stuck
def ResL.bindA (r : ResL) (k : List Xv → Sto → ResL) : ResL := match r with
  | .ok v s => k v s
  | .exc e s => .exc e s
  | .stuck => .stuck
def Res.bindS (r : Res) (ρ : Env') (k : Xv → Sto → Out) : Out := match r with
  | .ok v s => k v s
  | .exc e s => .exc e ρ s
  | .stuck => .stuck
theorem postE_bind {W : WX} {st : L2.St} {w : Wd} {ρ : Env'} {s : Sto} {H : Hp} {f : FE} {k : Xv → Sto → Res} {Q : VK} (e : RE T w ρ st) (r : RS T w s H) (p : PostE T W st w ((f ρ s).bind k) Q) :
    rdE T W f st H fun u H1 => ∃ w1 v s1, Le w w1 ∧ RE T w1 ρ st ∧ RX T w1 v u ∧ RS T w1 s1 H1 ∧ PostE T W st w1 (k v s1) Q := by
  refine ⟨w, ρ, s, e, r, ?_⟩
  cases h : f ρ s with
  | ok v s1 =>
    rw [h] at p
    exact fun w1 u H1 l x y => ⟨w1, v, s1, l, e.mono l, x, y, PostE.mono l p⟩
  | exc x s1 =>
    rw [h] at p
    exact p
  | stuck =>
    rw [h] at p
    exact p
theorem postA_bind {W : WX} {st : L2.St} {w : Wd} {ρ : Env'} {s : Sto} {H : Hp} {f : FE} {k : Xv → Sto → ResL} {Q : List V → Hp → Prop} (e : RE T w ρ st) (r : RS T w s H) (p : PostA T W st w ((f ρ s).bindA k) Q) :
    rdE T W f st H fun u H1 => ∃ w1 v s1, Le w w1 ∧ RE T w1 ρ st ∧ RX T w1 v u ∧ RS T w1 s1 H1 ∧ PostA T W st w1 (k v s1) Q := by
  refine ⟨w, ρ, s, e, r, ?_⟩
  cases h : f ρ s with
  | ok v s1 =>
    rw [h] at p
    exact fun w1 u H1 l x y => ⟨w1, v, s1, l, e.mono l, x, y, PostA.mono l p⟩
  | exc x s1 =>
    rw [h] at p
    exact p
  | stuck =>
    rw [h] at p
    exact p
theorem postE_bindL {W : WX} {st : L2.St} {w : Wd} {ρ : Env'} {s : Sto} {H : Hp} {f : FA} {k : List Xv → Sto → Res} {Q : VK} (e : RE T w ρ st) (r : RS T w s H) (p : PostE T W st w ((f ρ s).bind k) Q) :
    rdA T W f st H fun u H1 => ∃ w1 v s1, Le w w1 ∧ RE T w1 ρ st ∧ RXs T w1 v u ∧ RS T w1 s1 H1 ∧ PostE T W st w1 (k v s1) Q := by
  refine ⟨w, ρ, s, e, r, ?_⟩
  cases h : f ρ s with
  | ok v s1 =>
    rw [h] at p
    exact fun w1 u H1 l x y => ⟨w1, v, s1, l, e.mono l, x, y, PostE.mono l p⟩
  | exc x s1 =>
    rw [h] at p
    exact p
  | stuck =>
    rw [h] at p
    exact p
theorem postA_bindL {W : WX} {st : L2.St} {w : Wd} {ρ : Env'} {s : Sto} {H : Hp} {f : FA} {k : List Xv → Sto → ResL} {Q : List V → Hp → Prop} (e : RE T w ρ st) (r : RS T w s H) (p : PostA T W st w ((f ρ s).bindA k) Q) :
    rdA T W f st H fun u H1 => ∃ w1 v s1, Le w w1 ∧ RE T w1 ρ st ∧ RXs T w1 v u ∧ RS T w1 s1 H1 ∧ PostA T W st w1 (k v s1) Q := by
  refine ⟨w, ρ, s, e, r, ?_⟩
  cases h : f ρ s with
  | ok v s1 =>
    rw [h] at p
    exact fun w1 u H1 l x y => ⟨w1, v, s1, l, e.mono l, x, y, PostA.mono l p⟩
  | exc x s1 =>
    rw [h] at p
    exact p
  | stuck =>
    rw [h] at p
    exact p
theorem postS_bind {W : WX} {st : L2.St} {w : Wd} {ρ : Env'} {s : Sto} {H : Hp} {f : FE} {k : Xv → Sto → Out} {E : Ends} (e : RE T w ρ st) (r : RS T w s H) (p : PostS T W w ((f ρ s).bindS ρ k) E) :
    rdE T W f st H fun u H1 => ∃ w1 v s1, Le w w1 ∧ RE T w1 ρ st ∧ RX T w1 v u ∧ RS T w1 s1 H1 ∧ PostS T W w1 (k v s1) E := by
  refine ⟨w, ρ, s, e, r, ?_⟩
  cases h : f ρ s with
  | ok v s1 =>
    rw [h] at p
    exact fun w1 u H1 l x y => ⟨w1, v, s1, l, e.mono l, x, y, PostS.mono l p⟩
  | exc x s1 =>
    rw [h] at p
    exact fun w1 c d H1 l x y => p w1 c d st H1 l x (e.mono l) y
  | stuck =>
    rw [h] at p
    exact p
/-- the end of an expression -/
theorem postE_ok {W : WX} {st : L2.St} {w : Wd} {v : Xv} {s : Sto} {Q : VK} {u : V} {H : Hp} (p : PostE T W st w (.ok v s) Q) (x : RX T w v u) (r : RS T w s H) : Q u H := p w u H (.refl _) x r

/-! ### the judgements -/
abbrev PF (T : Tx) (X : Cx) (W : WX) (e : Expr) (f : FE) : Prop := PE X e (rdE T W f)
abbrev PFA (T : Tx) (X : Cx) (W : WX) (es : List Expr) (f : FA) : Prop := PA X es (rdA T W f)
abbrev PFT (T : Tx) (X : Cx) (W : WX) (e : Expr) (f : FE) : Prop := PT X e (rdT T W f)
abbrev PFS (T : Tx) (X : Cx) (W : WX) (st : Stmt) (f : FS) : Prop := PS X st (rdS T W f)
abbrev PFSs (T : Tx) (X : Cx) (W : WX) (st : List Stmt) (f : FS) : Prop := PSs X st (rdS T W f)
theorem PE.imp {X : Cx} {e : Expr} {t t' : TE} (h : PE X e t) (k : ∀ st H Q, t' st H Q → t st H Q) : PE X e t' := ⟨fun pins s σ H Q I q => h.run pins s σ H Q I (k _ _ _ q)⟩
theorem PA.imp {X : Cx} {e : List Expr} {t t' : TA} (h : PA X e t) (k : ∀ st H Q, t' st H Q → t st H Q) : PA X e t' := ⟨fun pos pins s σ H Q I q => h.run pos pins s σ H Q I (k _ _ _ q)⟩
theorem PT.imp {X : Cx} {e : Expr} {t t' : TT} (h : PT X e t) (k : ∀ st H Q, t' st H Q → t st H Q) : PT X e t' := ⟨fun pins s σ H Q I q => h.run pins s σ H Q I (k _ _ _ q)⟩
theorem PS.imp {X : Cx} {e : Stmt} {t t' : TS} (h : PS X e t) (k : ∀ E st H, t' E st H → t E st H) : PS X e t' := ⟨fun pins s σ H E I q => h.run pins s σ H E I (k _ _ _ q)⟩
theorem PSs.imp {X : Cx} {e : List Stmt} {t t' : TS} (h : PSs X e t) (k : ∀ E st H, t' E st H → t E st H) : PSs X e t' := ⟨fun pins s σ H E I q => h.run pins s σ H E I (k _ _ _ q)⟩
end
end FL

set_option Elab.async false
set_option linter.all false
set_option maxRecDepth 100000
set_option maxHeartbeats 4000000
namespace FL
open PySem PySem.Spec PyProof.Rows L2
section
variable {T : Tx}

/-! ### new objects -/
/-- a new list: a changing one (m) or plain data -/
def mkL (m : Bool) (xs : List D) (s : Sto) : Res := if m then .ok (.ref s.length) (s ++ [.lst xs]) else .ok (.d (.lst xs)) s
theorem RS.fresh {w : Wd} {s : Sto} {H : Hp} (r : RS T w s H) {p : Addr} (hp : H p = none) : w.G p = none ∧ w.Z p = none := by
  constructor
  · cases e : w.G p with
    | none => rfl
    | some o => rw [r.g _ _ e] at hp; cases hp
  · cases e : w.Z p with
    | none => rfl
    | some o => rw [r.z _ _ e] at hp; cases hp
/-- a new plain object -/
theorem RS.laidG {w : Wd} {s : Sto} {H : Hp} (r : RS T w s H) {p : Addr} (hp : H p = none) (o : HO) : Le w { w with G := upd w.G p o } ∧ RS T { w with G := upd w.G p o } s (upd H p o) := by
  obtain ⟨g0, z0⟩ := r.fresh hp
  have sg : Same w.G (upd w.G p o) := fun b u e => by rw [upd_ne (ne_of_none e g0)]; exact e
  refine ⟨⟨sg, rfl, [], by simp⟩, ⟨fun b u e => ?_, fun b u e => ?_, fun b u e => ?_, r.len, fun i u a e1 e2 e3 => ?_, r.inj⟩⟩
  · by_cases hb : b = p
    · subst hb
      have e' : upd w.G b o b = some u := e
      rw [upd_same] at e' ⊢
      exact e'
    · have e' : upd w.G p o b = some u := e
      rw [upd_ne hb] at e' ⊢
      exact r.g _ _ e'
  · have hb : b ≠ p := ne_of_none (r.z _ _ e) hp
    rw [upd_ne hb]
    exact r.z _ _ e
  · have hb : b ≠ p := ne_of_none (r.z _ _ e) hp
    show upd w.G p o b = none
    rw [upd_ne hb]
    exact r.gz _ _ e
  · obtain ⟨ho, h1, h2, h3, h4⟩ := r.live i u a e1 e2 e3
    have hb : a ≠ p := ne_of_none h1 hp
    exact ⟨ho, by rw [upd_ne hb]; exact h1, RO.mono sg h2, by show upd w.G p o a = none; rw [upd_ne hb]; exact h3, h4⟩
/-- a new changing object -/
theorem RS.laidO {w : Wd} {s : Sto} {H : Hp} (r : RS T w s H) {p : Addr} (hp : H p = none) {o : HO} {u : O} (ro : RO T w.G u o) : Le w { w with io := w.io ++ [p] } ∧ RS T { w with io := w.io ++ [p] } (s ++ [u]) (upd H p o) := by
  obtain ⟨g0, z0⟩ := r.fresh hp
  have hlen := r.len
  have old : ∀ {i : Nat} {v : O} {a : Addr}, i < s.length → (s ++ [u])[i]? = some v → v ≠ .dead → (w.io ++ [p])[i]? = some a → s[i]? = some v ∧ w.io[i]? = some a := fun {i v a} hi e1 _ e3 => by
    rw [List.getElem?_append_left hi] at e1
    rw [List.getElem?_append_left (by omega)] at e3
    exact ⟨e1, e3⟩
  have new : ∀ {i : Nat} {v : O} {a : Addr}, ¬ i < s.length → (s ++ [u])[i]? = some v → (w.io ++ [p])[i]? = some a → i = s.length ∧ v = u ∧ a = p := fun {i v a} hi e1 e3 => by
    have hb := (List.getElem?_eq_some_iff.mp e1).1
    have hi2 : i = s.length := by simp at hb; omega
    rw [hi2, List.getElem?_append_right (Nat.le_refl _)] at e1
    rw [hi2, List.getElem?_append_right (by omega), hlen] at e3
    simp at e1
    simp at e3
    exact ⟨hi2, e1.symm, e3.symm⟩
  refine ⟨⟨Same.refl _, rfl, [p], rfl⟩, ⟨fun b v e => ?_, fun b v e => ?_, r.gz, by simp [hlen], fun i v a e1 e2 e3 => ?_, fun i j v v' a e1 e2 e3 e4 e5 e6 => ?_⟩⟩
  · rw [upd_ne (ne_of_none (r.g _ _ e) hp)]
    exact r.g _ _ e
  · rw [upd_ne (ne_of_none (r.z _ _ e) hp)]
    exact r.z _ _ e
  · by_cases hi : i < s.length
    · obtain ⟨q1, q2⟩ := old hi e1 e2 e3
      obtain ⟨ho, h1, h2, h3, h4⟩ := r.live i v a q1 e2 q2
      exact ⟨ho, by rw [upd_ne (ne_of_none h1 hp)]; exact h1, h2, h3, h4⟩
    · obtain ⟨_, q2, q3⟩ := new hi e1 e3
      subst q2 q3
      exact ⟨o, upd_same, ro, g0, z0⟩
  · by_cases hi : i < s.length
    · obtain ⟨q1, q2⟩ := old hi e1 e2 e5
      by_cases hj : j < s.length
      · obtain ⟨q3, q4⟩ := old hj e3 e4 e6
        exact r.inj i j v v' a q1 e2 q3 e4 q2 q4
      · obtain ⟨_, _, q3⟩ := new hj e3 e6
        obtain ⟨ho, h1, _⟩ := r.live i v a q1 e2 q2
        rw [q3, hp] at h1
        cases h1
    · obtain ⟨k1, _, k3⟩ := new hi e1 e5
      by_cases hj : j < s.length
      · obtain ⟨q1, q2⟩ := old hj e3 e4 e6
        obtain ⟨ho, h1, _⟩ := r.live j v' a q1 e4 q2
        rw [k3, hp] at h1
        cases h1
      · obtain ⟨k4, _, _⟩ := new hj e3 e6
        rw [k1, k4]
/-- a changing object is changed -/
theorem RS.write {w : Wd} {s : Sto} {H : Hp} (r : RS T w s H) {i : Nat} {a : Addr} {o o' : O} {ho : HO} (e : s[i]? = some o) (ne : o ≠ .dead) (ea : w.io[i]? = some a) (ro : RO T w.G o' ho) : RS T w (s.set i o') (upd H a ho) := by
  obtain ⟨h0, a1, a2, a3, a4⟩ := r.live i o a e ne ea
  have il : i < s.length := (List.getElem?_eq_some_iff.mp e).1
  refine ⟨fun b v q => ?_, fun b v q => ?_, r.gz, by simp [r.len], fun j v b e1 e2 e3 => ?_, fun j k v v' b e1 e2 e3 e4 e5 e6 => ?_⟩
  · rw [upd_ne (ne_of_none q a3)]
    exact r.g _ _ q
  · rw [upd_ne (ne_of_none q a4)]
    exact r.z _ _ q
  · by_cases hj : i = j
    · subst hj
      rw [ea] at e3
      cases e3
      rw [List.getElem?_set_self il] at e1
      cases e1
      exact ⟨ho, upd_same, ro, a3, a4⟩
    · rw [List.getElem?_set_ne hj] at e1
      obtain ⟨hb, q1, q2, q3, q4⟩ := r.live j v b e1 e2 e3
      have hne : b ≠ a := fun z => hj (r.inj i j o v a e ne e1 e2 ea (by rw [← z]; exact e3))
      exact ⟨hb, by rw [upd_ne hne]; exact q1, q2, q3, q4⟩
  · have back : ∀ (m : Nat) (v : O), (s.set i o')[m]? = some v → v ≠ .dead → ∃ v0, s[m]? = some v0 ∧ v0 ≠ .dead := fun m v q1 q2 => by
      by_cases hm : i = m
      · subst hm
        exact ⟨o, e, ne⟩
      · rw [List.getElem?_set_ne hm] at q1
        exact ⟨v, q1, q2⟩
    obtain ⟨v0, k1, k2⟩ := back j v e1 e2
    obtain ⟨v1, k3, k4⟩ := back k v' e3 e4
    exact r.inj j k v0 v1 b k1 k2 k3 k4 e5 e6
theorem mkL_ok {W : WX} {st : L2.St} {w : Wd} {m : Bool} {xs : List D} {vs : List V} {s : Sto} {H : Hp} {Q : VK} (p : PostE T W st w (mkL m xs s) Q) (r : RS T w s H) (x : Rs T w.G xs vs) (a : Addr) (ha : H a = none) : Q (.ref a) (upd H a (.lst vs)) := by
  unfold mkL at p
  cases m with
  | true =>
    rw [if_pos rfl] at p
    obtain ⟨l, r'⟩ := r.laidO ha (u := .lst xs) (o := .lst vs) ⟨vs, rfl, x⟩
    refine p _ _ _ l ⟨a, ?_, rfl⟩ r'
    show (w.io ++ [a])[s.length]? = some a
    rw [← r.len]
    simp
  | false =>
    rw [if_neg Bool.false_ne_true] at p
    obtain ⟨l, r'⟩ := r.laidG ha (.lst vs)
    refine p _ _ _ l ?_ r'
    show R T _ _ _
    unfold R
    exact ⟨a, vs, rfl, upd_same, Rs.mono l.g x⟩
theorem mkT_ok {W : WX} {st : L2.St} {w : Wd} {xs : List D} {vs : List V} {s : Sto} {H : Hp} {Q : VK} (p : PostE T W st w (.ok (.d (.tup xs)) s) Q) (r : RS T w s H) (x : Rs T w.G xs vs) (a : Addr) (ha : H a = none) : Q (.ref a) (upd H a (.tup vs)) := by
  obtain ⟨l, r'⟩ := r.laidG ha (.tup vs)
  refine p _ _ _ l ?_ r'
  show R T _ _ _
  unfold R
  exact ⟨a, vs, rfl, .of upd_same, Rs.mono l.g x⟩

/-! ### looking at values -/
/-- a list's items, a changing one's too -/
def viewL : Xv → Sto → Option (List D)
  | .d (.lst xs), _ => some xs
  | .ref i, s => match s[i]? with | some (.lst xs) => some xs | _ => none
  | _, _ => none
def viewT : Xv → Option (List D)
  | .d (.tup xs) => some xs
  | _ => none
theorem viewL_ok {w : Wd} {s : Sto} {H : Hp} {x : Xv} {u : V} {xs : List D} (r : RS T w s H) (e : RX T w x u) (h : viewL x s = some xs) : ∃ a vs, u = .ref a ∧ H a = some (.lst vs) ∧ Rs T w.G xs vs := by
  unfold viewL at h
  split at h
  · cases h
    have e' : R T w.G (.lst xs) u := e
    unfold R at e'
    obtain ⟨a, vs, e1, e2, e3⟩ := e'
    exact ⟨a, vs, e1, r.g _ _ e2, e3⟩
  · rename_i i s'
    split at h
    · rename_i q
      cases h
      obtain ⟨a, e1, e2⟩ := e
      obtain ⟨ho, h1, ⟨vs, h2, h3⟩, _⟩ := r.live _ _ a q (fun z => nomatch z) e1
      exact ⟨a, vs, e2, by rw [h1, h2], h3⟩
    · cases h
  · cases h
theorem viewT_ok {w : Wd} {s : Sto} {H : Hp} {x : Xv} {u : V} {xs : List D} (r : RS T w s H) (e : RX T w x u) (h : viewT x = some xs) : ∃ a vs, u = .ref a ∧ SqT T.K H a vs ∧ Rs T w.G xs vs := by
  unfold viewT at h
  split at h
  · cases h
    have e' : R T w.G (.tup xs) u := e
    unfold R at e'
    obtain ⟨a, vs, e1, e2, e3⟩ := e'
    exact ⟨a, vs, e1, sqT_mono r.g e2, e3⟩
  · cases h
theorem R_int {G : Hp} {i : Int} {v : V} (h : R T G (.int i) v) : v = .int i := by unfold R at h; exact h
theorem R_str {G : Hp} {i : Str} {v : V} (h : R T G (.str i) v) : v = .str i := by unfold R at h; exact h
theorem R_bl {G : Hp} {i : Bool} {v : V} (h : R T G (.bl i) v) : v = .bl i := by unfold R at h; exact h
theorem R_non {G : Hp} {v : V} (h : R T G .non v) : v = .non := by unfold R at h; exact h
theorem X_int {w : Wd} {i : Int} {v : V} (h : RX T w (.d (.int i)) v) : v = .int i := R_int (T := T) (G := w.G) h
theorem X_str {w : Wd} {i : Str} {v : V} (h : RX T w (.d (.str i)) v) : v = .str i := R_str (T := T) (G := w.G) h
theorem X_bl {w : Wd} {i : Bool} {v : V} (h : RX T w (.d (.bl i)) v) : v = .bl i := R_bl (T := T) (G := w.G) h
theorem X_non {w : Wd} {v : V} (h : RX T w (.d .non) v) : v = .non := R_non (T := T) (G := w.G) h
theorem rX_int {w : Wd} {i : Int} : RX T w (.d (.int i)) (.int i) := by show R T _ _ _; unfold R; rfl
theorem rX_str {w : Wd} {i : Str} : RX T w (.d (.str i)) (.str i) := by show R T _ _ _; unfold R; rfl
theorem rX_bl {w : Wd} {i : Bool} : RX T w (.d (.bl i)) (.bl i) := by show R T _ _ _; unfold R; rfl
theorem rX_non {w : Wd} : RX T w (.d .non) .non := by show R T _ _ _; unfold R; rfl

/-! ### names, constants -/
def varF (i : Nat) : FE := fun ρ s => match ρ[i]? with | some (some v) => .ok v s | _ => .stuck
def litF (d : D) : FE := fun _ s => .ok (.d d) s
theorem rd_var {W : WX} {i : Nat} {st : L2.St} {H : Hp} {Q : VK} (h : rdE T W (varF i) st H Q) : tVar i st H Q := by
  obtain ⟨w, r, s, e, k, p⟩ := h
  unfold varF at p
  split at p
  · rename_i v q
    obtain ⟨u, e1, e2⟩ := e.at_ _ _ q
    exact ⟨u, e1, postE_ok p e2 k⟩
  · exact p.elim
theorem pf_var {X : Cx} {W : WX} (i : Nat) {x : Str} {pos : Pos} (hN : X.N[i]? = some x := by rfl) (hv : Vis X.env.scope x := by first | exact Or.inl rfl | exact Or.inr (Or.inl rfl) | exact Or.inr (Or.inr rfl)) (hd : (x == ("__debug__" : Str)) = false := by decide)
    (hcd : (x == ("__classdict__" : Str)) = false := by decide) : PF T X W (.Name x pos) (varF i) := PE.imp (pe_var hN hv hd hcd) fun _ _ _ => rd_var
theorem rd_lit {W : WX} {d : D} {v : V} (hr : ∀ G, R T G d v) {st : L2.St} {H : Hp} {Q : VK} (h : rdE T W (litF d) st H Q) : tC v st H Q := by
  obtain ⟨w, r, s, e, k, p⟩ := h
  exact postE_ok p (hr _) k
theorem pf_int {X : Cx} {W : WX} {i j pos} : PF T X W (.Constant (.int i) j pos) (litF (.int i)) := PE.imp pe_int fun _ _ _ => rd_lit fun G => by unfold R; rfl
theorem pf_bl {X : Cx} {W : WX} {i j pos} : PF T X W (.Constant (.bool i) j pos) (litF (.bl i)) := PE.imp pe_bl fun _ _ _ => rd_lit fun G => by unfold R; rfl
theorem pf_str {X : Cx} {W : WX} {i j pos} : PF T X W (.Constant (.str i) j pos) (litF (.str i)) := PE.imp pe_str fun _ _ _ => rd_lit fun G => by unfold R; rfl
theorem pf_non {X : Cx} {W : WX} {j pos} : PF T X W (.Constant .none j pos) (litF .non) := PE.imp pe_non fun _ _ _ => rd_lit fun G => by unfold R; rfl
/-- a constant of the module: a number, a text -/
theorem pf_gint {X : Cx} {W : WX} {x : Str} {i : Int} {t : Tok} {pos : Pos} (hm : X.mg x = some (.int i t)) (hg : Gl X x := by rfl) (hd : (x == ("__debug__" : Str)) = false := by decide) : PF T X W (.Name x pos) (litF (.int i)) :=
  PE.imp (pe_glob (v := .int i) hg hm ⟨_, rfl⟩ hd) fun _ _ _ => rd_lit fun G => by unfold R; rfl
theorem pf_gstr {X : Cx} {W : WX} {x : Str} {i : Str} {t : Tok} {pos : Pos} (hm : X.mg x = some (.str i t)) (hg : Gl X x := by rfl) (hd : (x == ("__debug__" : Str)) = false := by decide) : PF T X W (.Name x pos) (litF (.str i)) :=
  PE.imp (pe_glob (v := .str i) hg hm ⟨_, rfl⟩ hd) fun _ _ _ => rd_lit fun G => by unfold R; rfl
theorem pf_gcls {X : Cx} {W : WX} {x : Str} (c : Nat) {pos : Pos} (hm : X.mg x = some (.ref (T.ct c))) (hg : Gl X x := by rfl) (hd : (x == ("__debug__" : Str)) = false := by decide) : PF T X W (.Name x pos) (litF (.cls c)) :=
  PE.imp (pe_glob (v := .ref (T.ct c)) hg hm rfl hd) fun _ _ _ => rd_lit fun G => by unfold R; rfl
theorem pf_gadr {X : Cx} {W : WX} {x : Str} {a : Addr} {pos : Pos} (hm : X.mg x = some (.ref a)) (hg : Gl X x := by rfl) (hd : (x == ("__debug__" : Str)) = false := by decide) : PF T X W (.Name x pos) (litF (.adr a)) :=
  PE.imp (pe_glob (v := .ref a) hg hm rfl hd) fun _ _ _ => rd_lit fun G => by unfold R; rfl
theorem pf_ty {X : Cx} {W : WX} {x : Str} {n : String} {pos : Pos} (hm : X.mg x = none) (hv : bootBuiltins x = some (.type n)) (hg : Gl X x := by rfl) (hn : x ≠ "__name__" := by decide) (hd : (x == ("__debug__" : Str)) = false := by decide) : PF T X W (.Name x pos) (litF (.ty n)) :=
  PE.imp (pe_bltn (v := .ty n) hg hm hv rfl hn hd) fun _ _ _ => rd_lit fun G => by unfold R; rfl

/-! ### operations on two values -/
def op2F (o : Xv → Xv → Sto → Res) (f g : FE) : FE := fun ρ s => (f ρ s).bind fun x s1 => (g ρ s1).bind fun y s2 => o x y s2
/-- the rule r serves o -/
def Op2 (T : Tx) (W : WX) (r : R2) (o : Xv → Xv → Sto → Res) : Prop := ∀ (st : L2.St) (w : Wd) (x y : Xv) (u v : V) (s : Sto) (H : Hp) (Q : VK), RX T w x u → RX T w y v → RS T w s H → PostE T W st w (o x y s) Q → r u v H Q
theorem rdE_mono {W : WX} {f : FE} {st : L2.St} {H : Hp} {Q Q' : VK} (h : rdE T W f st H Q) (k : ∀ u H, Q u H → Q' u H) : rdE T W f st H Q' := by
  obtain ⟨w, ρ, s, e, q, p⟩ := h
  refine ⟨w, ρ, s, e, q, ?_⟩
  revert p
  cases f ρ s with
  | ok v s1 => exact fun p w1 u H1 l x y => k _ _ (p w1 u H1 l x y)
  | exc a b => exact fun p => p
  | stuck => exact fun p => p
theorem rdA_mono {W : WX} {f : FA} {st : L2.St} {H : Hp} {Q Q' : List V → Hp → Prop} (h : rdA T W f st H Q) (k : ∀ u H, Q u H → Q' u H) : rdA T W f st H Q' := by
  obtain ⟨w, ρ, s, e, q, p⟩ := h
  refine ⟨w, ρ, s, e, q, ?_⟩
  revert p
  cases f ρ s with
  | ok v s1 => exact fun p w1 u H1 l x y => k _ _ (p w1 u H1 l x y)
  | exc a b => exact fun p => p
  | stuck => exact fun p => p
theorem rdT_mono {W : WX} {f : FE} {st : L2.St} {H : Hp} {Q Q' : Bool → Hp → Prop} (h : rdT T W f st H Q) (k : ∀ u H, Q u H → Q' u H) : rdT T W f st H Q' := by
  obtain ⟨w, ρ, s, e, q, p⟩ := h
  refine ⟨w, ρ, s, e, q, ?_⟩
  revert p
  cases f ρ s with
  | ok v s1 => exact fun ⟨b, eb, p⟩ => ⟨b, eb, fun w1 H1 l y => k _ _ (p w1 H1 l y)⟩
  | exc a b => exact fun p => p
  | stuck => exact fun p => p
theorem rd_op2 {W : WX} {r : R2} {o : Xv → Xv → Sto → Res} {f g : FE} (h : Op2 T W r o) {st : L2.St} {H : Hp} {Q : VK} (k : rdE T W (op2F o f g) st H Q) : tOp r (rdE T W f) (rdE T W g) st H Q := by
  obtain ⟨w, ρ, s, e, q, p⟩ := k
  exact rdE_mono (postE_bind e q p) fun u H1 ⟨w1, x, s1, l1, e1, x1, r1, p1⟩ => rdE_mono (postE_bind e1 r1 p1) fun v H2 ⟨w2, y, s2, l2, e2, x2, r2, p2⟩ => h st w2 x y u v s2 H2 Q (x1.mono l2) x2 r2 p2
theorem pf_op {X : Cx} {W : WX} {op : Operator} {r : R2} {o : Xv → Xv → Sto → Res} {a b : Expr} {f g : FE} {pos : Pos} (ho : OpR X (binaryOp op) r) (h : Op2 T W r o) (ha : PF T X W a f) (hb : PF T X W b g) : PF T X W (.BinOp a op b pos) (op2F o f g) := PE.imp (pe_op ho ha hb) fun _ _ _ => rd_op2 h
theorem pf_cmp {X : Cx} {W : WX} {op : CmpOp} {r : R2} {o : Xv → Xv → Sto → Res} {a b : Expr} {f g : FE} {pos : Pos} (ho : OpR X (compareOp op) r) (h : Op2 T W r o) (ha : PF T X W a f) (hb : PF T X W b g) (hm : behindInMarks op b = false) : PF T X W (.Compare a [op] [b] pos) (op2F o f g) := PE.imp (pe_cmpR ho ha hb hm) fun _ _ _ => rd_op2 h

/-! ### tests -/
theorem rdT_of {W : WX} {f : FE} {st : L2.St} {H : Hp} {Q : Bool → Hp → Prop} (h : rdT T W f st H Q) : rdE T W f st H fun u H1 => ∃ w v s b, RX T w v u ∧ RS T w s H1 ∧ truth v s = some b ∧ Q b H1 := by
  obtain ⟨w, ρ, s, e, q, p⟩ := h
  refine ⟨w, ρ, s, e, q, ?_⟩
  revert p
  cases f ρ s with
  | ok v s1 => exact fun ⟨b, eb, p⟩ w1 u H1 l x y => ⟨w1, v, s1, b, x, y, eb, p w1 H1 l y⟩
  | exc a b => exact fun p => p
  | stuck => exact fun p => p
theorem truth_ok {w : Wd} {v : Xv} {u : V} {s : Sto} {H : Hp} {b : Bool} (x : RX T w v u) (r : RS T w s H) (e : truth v s = some b) : TruV T.K u H b := by
  unfold truth at e
  split at e
  · cases e
    cases X_non x
    rfl
  · cases e
    cases X_bl x
    rfl
  · cases e
    cases X_int x
    rfl
  · rename_i s' xs
    cases e
    obtain ⟨a, vs, e1, e2, e3⟩ := viewT_ok (xs := xs) r x rfl
    subst e1
    refine .inr (.inl ⟨vs, e2, ?_⟩)
    have hl := e3.length
    cases xs with
    | nil => cases vs with
      | nil => rfl
      | cons _ _ => simp at hl
    | cons _ _ => cases vs with
      | nil => simp at hl
      | cons _ _ => rfl
  · rename_i s' xs
    cases e
    obtain ⟨a, vs, e1, e2, e3⟩ := viewL_ok (xs := xs) r x rfl
    subst e1
    refine .inl ⟨vs, .of e2, ?_⟩
    have hl := e3.length
    cases xs with
    | nil => cases vs with
      | nil => rfl
      | cons _ _ => simp at hl
    | cons _ _ => cases vs with
      | nil => simp at hl
      | cons _ _ => rfl
  · cases e
/-- any expression, by its value's truth -/
theorem pft_of {X : Cx} {W : WX} {e : Expr} {f : FE} (hK : X.K = T.K) (h : PF T X W e f) (he : ∀ whole, isTrue e X.env whole = (do let v ← whole; standAt e.pos; holding [v] (truthy v)) := by intro _; rfl) : PFT T X W e f :=
  PT.imp (pt_truth h he) fun st H Q k => rdE_mono (rdT_of k) fun u H1 ⟨w, v, s, b, x, r, e, q⟩ => ⟨b, by rw [hK]; exact truth_ok x r e, q⟩
theorem truth_bl {w : Wd} {v : Xv} {s : Sto} {b : Bool} {k : Bool} (x : RX T w v (.bl k)) (e : truth v s = some b) : b = k := by
  unfold truth at e
  split at e
  · cases X_non x
  · cases e
    cases X_bl x
    rfl
  · cases X_int x
  · have x' : R T _ _ _ := x
    unfold R at x'
    obtain ⟨a, vs, e1, _⟩ := x'
    cases e1
  · have x' : R T _ _ _ := x
    unfold R at x'
    obtain ⟨a, vs, e1, _⟩ := x'
    cases e1
  · cases e
/-- a comparison's answer is a truth value -/
def Bl2 (o : Xv → Xv → Sto → Res) : Prop := ∀ x y s, (∃ b s', o x y s = .ok (.d (.bl b)) s') ∨ o x y s = .stuck
theorem pft_cmp {X : Cx} {W : WX} {op : CmpOp} {r : R2} {o : Xv → Xv → Sto → Res} {a b : Expr} {f g : FE} {pos : Pos} (ho : OpR X (compareOp op) r) (h : Op2 T W r o) (hb' : Bl2 o) (ha : PF T X W a f) (hb : PF T X W b g) (hm : behindInMarks op b = false) : PFT T X W (.Compare a [op] [b] pos) (op2F o f g) := by
  refine PT.imp (pt_cmpR ho ha hb hm) fun st H Q k => ?_
  have k' : rdE T W (op2F o f g) st H fun u H1 => ∃ k, u = .bl k ∧ Q k H1 := by
    obtain ⟨w, ρ, s, e, q, p⟩ := k
    refine ⟨w, ρ, s, e, q, ?_⟩
    revert p
    unfold op2F
    cases f ρ s with
    | exc a b => exact fun p => p
    | stuck => exact fun p => p
    | ok x s1 =>
      show PostT T W st w ((g ρ s1).bind fun y s2 => o x y s2) Q → PostE T W st w ((g ρ s1).bind fun y s2 => o x y s2) _
      cases g ρ s1 with
      | exc a b => exact fun p => p
      | stuck => exact fun p => p
      | ok y s2 =>
        show PostT T W st w (o x y s2) Q → PostE T W st w (o x y s2) _
        rcases hb' x y s2 with ⟨b, s', e⟩ | e
        · rw [e]
          rintro ⟨b', e', p⟩ w1 u H1 l x1 y1
          cases e'
          exact ⟨b, X_bl x1, p w1 H1 l y1⟩
        · rw [e]
          exact fun p => p
  exact rd_op2 h k'
end
end FL

set_option Elab.async false
set_option linter.all false
set_option maxRecDepth 100000
set_option maxHeartbeats 4000000
namespace FL
open PySem PySem.Spec PyProof.Rows L2
section
variable {T : Tx}
/-! ### arithmetic -/
def okI (i : Int) (s : Sto) : Res := .ok (.d (.int i)) s
def okB (b : Bool) (s : Sto) : Res := .ok (.d (.bl b)) s
theorem okI_q {W : WX} {st : L2.St} {w : Wd} {s : Sto} {H : Hp} {Q : VK} {i : Int} (p : PostE T W st w (okI i s) Q) (r : RS T w s H) : Q (.int i) H := postE_ok p rX_int r
theorem okB_q {W : WX} {st : L2.St} {w : Wd} {s : Sto} {H : Hp} {Q : VK} {i : Bool} (p : PostE T W st w (okB i s) Q) (r : RS T w s H) : Q (.bl i) H := postE_ok p rX_bl r
/-- a sum: numbers, texts, lists, tuples -/
def addX (m : Bool) (x y : Xv) (s : Sto) : Res := match x, y with
  | .d (.int i), .d (.int j) => okI (i + j) s
  | .d (.str a), .d (.str b) => if a.length + b.length ≤ sizeLine then .ok (.d (.str (a ++ b))) s else .stuck
  | .d (.tup a), .d (.tup b) => if a.length + b.length ≤ sizeLine then .ok (.d (.tup (a ++ b))) s else .stuck
  | x, y => match viewL x s, viewL y s with
    | some a, some b => if a.length + b.length ≤ sizeLine then mkL m (a ++ b) s else .stuck
    | _, _ => .stuck
def rAddI : R2 := rI0 fun i j => .int (i + j)
def rAddS : R2 := fun x y H Q => ∃ i j, x = .str i ∧ y = .str j ∧ i.length + j.length ≤ sizeLine ∧ Q (.str (i ++ j)) H
theorem op_addAll {X : Cx} : OpR X (binaryOp .Add) (fun x y H Q => rAddI x y H Q ∨ rAddS x y H Q ∨ rCatA X.K x y H Q ∨ rCat x y H Q) := op_add.or (op_add_str.or (op_catA.or op_cat))
theorem add_ok {W : WX} {m : Bool} : Op2 T W (fun x y H Q => rAddI x y H Q ∨ rAddS x y H Q ∨ rCatA T.K x y H Q ∨ rCat x y H Q) (addX m) := by
  intro st w x y u v s H Q hx hy r p
  unfold addX at p
  split at p
  · cases X_int hx
    cases X_int hy
    exact .inl ⟨_, _, rfl, rfl, okI_q p r⟩
  · cases X_str hx
    cases X_str hy
    split at p
    · exact .inr (.inl ⟨_, _, rfl, rfl, by assumption, postE_ok p rX_str r⟩)
    · exact p.elim
  · rename_i a b
    split at p
    · rename_i hl
      obtain ⟨pa, va, e1, e2, e3⟩ := viewT_ok (xs := a) r hx rfl
      obtain ⟨pb, vb, f1, f2, f3⟩ := viewT_ok (xs := b) r hy rfl
      subst e1 f1
      have l1 := e3.length
      have l2 := f3.length
      refine .inr (.inr (.inl ⟨pa, pb, va, vb, rfl, rfl, e2, f2, by rw [← l1, ← l2]; exact hl, fun z => ?_, fun _ z => ?_, fun _ _ q hq => ?_⟩))
      · subst z
        simp at l1
        subst l1
        exact postE_ok p hy r
      · subst z
        simp at l2
        subst l2
        rw [List.append_nil] at p
        exact postE_ok p hx r
      · exact mkT_ok p r (e3.append f3) q hq
    · exact p.elim
  · split at p
    · rename_i a b h1 h2
      split at p
      · rename_i hl
        obtain ⟨pa, va, e1, e2, e3⟩ := viewL_ok r hx h1
        obtain ⟨pb, vb, f1, f2, f3⟩ := viewL_ok r hy h2
        subst e1 f1
        have l1 := e3.length
        have l2 := f3.length
        exact .inr (.inr (.inr ⟨pa, pb, va, vb, rfl, rfl, e2, f2, by rw [← l1, ← l2]; exact hl, fun q hq => mkL_ok p r (e3.append f3) q hq⟩))
      · exact p.elim
    · exact p.elim
theorem pf_add {X : Cx} {W : WX} {a b : Expr} {f g : FE} {pos : Pos} (m : Bool) (hK : X.K = T.K) (ha : PF T X W a f) (hb : PF T X W b g) : PF T X W (.BinOp a .Add b pos) (op2F (addX m) f g) :=
  pf_op op_addAll (by rw [hK]; exact add_ok) ha hb
def int2 (c : Int → Int → Bool) (k : Int → Int → D) (x y : Xv) (s : Sto) : Res := match x, y with
  | .d (.int i), .d (.int j) => if c i j = true then .ok (.d (k i j)) s else .stuck
  | _, _ => .stuck
theorem int2_ok {W : WX} {c : Int → Int → Bool} {C : Int → Int → Prop} {k : Int → Int → Int} (hC : ∀ i j, c i j = true → C i j) : Op2 T W (rI C fun i j => .int (k i j)) (int2 c fun i j => .int (k i j)) := by
  intro st w x y u v s H Q hx hy r p
  unfold int2 at p
  split at p
  · cases X_int hx
    cases X_int hy
    split at p
    · rename_i h
      exact ⟨_, _, rfl, rfl, hC _ _ h, postE_ok p rX_int r⟩
    · exact p.elim
  · exact p.elim
def cYes (_ _ : Int) : Bool := true
def subX : Xv → Xv → Sto → Res := int2 cYes fun i j => .int (i - j)
theorem op_sub' {X : Cx} : OpR X (binaryOp .Sub) (rI (fun _ _ => True) fun i j => .int (i - j)) := opI fun _ _ _ _ _ _ _ _ q => sub_int q
theorem pf_sub {X : Cx} {W : WX} {a b : Expr} {f g : FE} {pos : Pos} (ha : PF T X W a f) (hb : PF T X W b g) : PF T X W (.BinOp a .Sub b pos) (op2F subX f g) := pf_op op_sub' (int2_ok fun _ _ _ => True.intro) ha hb
def cDiv (_ j : Int) : Bool := decide (0 < j) && decide (j.natAbs.log2 < 9000)
def fdivX : Xv → Xv → Sto → Res := int2 cDiv fun i j => .int (i / j)
theorem pf_fdiv {X : Cx} {W : WX} {a b : Expr} {f g : FE} {pos : Pos} (ha : PF T X W a f) (hb : PF T X W b g) : PF T X W (.BinOp a .FloorDiv b pos) (op2F fdivX f g) :=
  pf_op op_fdivW (int2_ok fun i j h => by
    unfold cDiv at h
    rw [Bool.and_eq_true] at h
    exact ⟨of_decide_eq_true h.1, of_decide_eq_true h.2⟩) ha hb
def cPos (_ j : Int) : Bool := decide (0 < j)
def modX : Xv → Xv → Sto → Res := int2 cPos fun i j => .int (i % j)
theorem pf_mod {X : Cx} {W : WX} {a b : Expr} {f g : FE} {pos : Pos} (ha : PF T X W a f) (hb : PF T X W b g) : PF T X W (.BinOp a .Mod b pos) (op2F modX f g) := pf_op op_mod (int2_ok fun _ _ h => of_decide_eq_true h) ha hb
def CPw (i j : Int) : Prop := 0 ≤ j ∧ (Builtin.Int.intBits i : Int) * j ≤ 2 ^ 27
def cPow (i j : Int) : Bool := decide (0 ≤ j) && decide ((Builtin.Int.intBits i : Int) * j ≤ 2 ^ 27)
def powX : Xv → Xv → Sto → Res := int2 cPow fun i j => .int (i ^ j.toNat)
theorem op_powW {X : Cx} : OpR X (binaryOp .Pow) (rI CPw fun i j => .int (i ^ j.toNat)) := opI fun _ _ _ _ _ _ _ hc q => pow_int hc.1 hc.2 q
theorem pf_pow {X : Cx} {W : WX} {a b : Expr} {f g : FE} {pos : Pos} (ha : PF T X W a f) (hb : PF T X W b g) : PF T X W (.BinOp a .Pow b pos) (op2F powX f g) :=
  pf_op op_powW (int2_ok fun i j h => by
    unfold cPow at h
    rw [Bool.and_eq_true] at h
    exact ⟨of_decide_eq_true h.1, of_decide_eq_true h.2⟩) ha hb

/-! ### products -/
theorem tuple_mulS (l : Addr) (items : Array Value) (n : Nat) (sl : Array (Option Value)) (dd : Option Addr) (x : Int) (u : Tok) (c0 : (decide (x < -(2 ^ 63)) || decide (x ≥ 2 ^ 63)) = false) (c1 : (items.isEmpty || x == 1) = true) :
    Meets (Builtin.«tuple.__mul__» ⟨[.ref l, .int x u], []⟩) (fun _ R s => s.heap.get? l = some { cls := .type "tuple", dict := dd, data := .seq items n, slots := sl } ∧
      R (.ok (.ret (Value.ref l))) { s with heap := s.heap, toks := s.toks }) :=
  .of_wp fun prog w A R s h => by
    obtain ⟨hp, g, d, tk, os⟩ := s
    obtain ⟨hl, h⟩ := h
    have f1 := AutoSeq1.idx_int
    wp_walk using wpAny_loadPart' hl
    repeat (first
      | (refine wpAny_ite_false (decide_eq_false (by rw [c0]; exact Bool.false_ne_true)) ?_; wp_walk using wpAny_loadPart' hl)
      | (refine wpAny_ite_true (decide_eq_true c1) ?_; wp_walk using wpAny_loadPart' hl))
    exact ⟨_, rfl, h⟩
theorem tuple_mulE (l : Addr) (items : Array Value) (n : Nat) (sl : Array (Option Value)) (dd : Option Addr) (x : Int) (u : Tok) (c0 : (decide (x < -(2 ^ 63)) || decide (x ≥ 2 ^ 63)) = false) (c1 : (items.isEmpty || x == 1) = false) (c2 : (decide (x ≤ 0) || items.isEmpty) = true) :
    Meets (Builtin.«tuple.__mul__» ⟨[.ref l, .int x u], []⟩) (fun _ R s => s.heap.get? l = some { cls := .type "tuple", dict := dd, data := .seq items n, slots := sl } ∧
      R (.ok (.ret (Value.ref s.heap.objs.size))) { s with heap := s.heap.push { cls := Value.type "tuple", data := Data.seq #[] }, toks := s.toks }) :=
  .of_wp fun prog w A R s h => by
    obtain ⟨hp, g, d, tk, os⟩ := s
    obtain ⟨hl, h⟩ := h
    have f1 := AutoSeq1.idx_int
    wp_walk using wpAny_loadPart' hl
    repeat (first
      | (refine wpAny_ite_false (decide_eq_false (by rw [c0]; exact Bool.false_ne_true)) ?_; wp_walk using wpAny_loadPart' hl)
      | (refine wpAny_ite_false (decide_eq_false (by rw [c1]; exact Bool.false_ne_true)) ?_; wp_walk using wpAny_loadPart' hl)
      | (refine wpAny_ite_true (decide_eq_true c2) ?_; wp_walk using wpAny_loadPart' hl))
    exact ⟨_, rfl, h⟩
end
end FL

set_option Elab.async false
set_option linter.all false
set_option maxRecDepth 100000
set_option maxHeartbeats 4000000
namespace FL
open PySem PySem.Spec PyProof.Rows L2
section
variable {X : Cx}
def rRepA (K : PySem.W.Frag) : R2 := fun x y H Q => ∃ l k xs, x = .ref l ∧ y = .int k ∧ SqT K H l xs ∧ -1000 ≤ k ∧ k ≤ 1000 ∧ xs.length ≤ 1000 ∧
  ((xs = [] ∨ k = 1) → Q (.ref l) H) ∧ (¬ (xs = [] ∨ k = 1) → ∀ p, H p = none → Q (.ref p) (upd H p (.tup (List.replicate k.toNat xs).flatten)))
theorem op_repA : OpR X (binaryOp .Mult) (rRepA X.K) := by
  intro pins s σ H x y v u Q I rx ry h
  obtain ⟨l, k, xs, rfl, rfl, hT, h1, h2, hz, q1, q2⟩ := h
  by_cases hs : xs = [] ∨ k = 1
  · cases rx
    obtain ⟨t, rfl⟩ := ry
    obtain ⟨its, r, ⟨⟨cls, dd, data, sl⟩, ho, hc, n, hd⟩, hs2⟩ := I.tuple hT
    simp only at hc hd
    subst hc hd
    have c0 : (decide (k < -(2 ^ 63)) || decide (k ≥ 2 ^ 63)) = false := by
      rw [decide_eq_false (by omega), decide_eq_false (by omega)] <;> rfl
    have c1 : (its.toArray.isEmpty || k == 1) = true := by
      rcases hs with e | e
      · subst e
        cases r
        rfl
      · rw [e]
        simp
    refine wpAny_binaryOp_repeat_ref (T := "tuple") (U := "int") (by decide) ⟨_, ho, rfl⟩ (fun s' => typeIs_int s' k t) noFill_tuple_mul F.fills_int_mul F.slot_int_rmul repeat_tuple F.slot_int_index.lookup
      (call_meets F.slot_int_rmul (typeIs_int s k t) F.entry_int_rmul (F.args_int_rmul_2 _ _) (int_rmul_tuple k t l its.toArray n dd sl)
        ⟨ho, rfl, ⟨_, ho, rfl⟩, call_meets F.slot_tuple_mul ⟨_, ho, rfl⟩ F.entry_tuple_mul (F.args_tuple_mul_2 _ _) (tuple_mulS l its.toArray n sl dd k t c0 c1) ⟨ho, ?_⟩⟩)
    exact ⟨.ref l, H, I.tok _, rfl, q1 hs⟩
  · by_cases hk : k ≤ 0
    · cases rx
      obtain ⟨t, rfl⟩ := ry
      obtain ⟨its, r, ⟨⟨cls, dd, data, sl⟩, ho, hc, n, hd⟩, hs2⟩ := I.tuple hT
      simp only at hc hd
      subst hc hd
      have hn : its ≠ [] := fun e => hs (.inl (by subst e; cases r; rfl))
      have c0 : (decide (k < -(2 ^ 63)) || decide (k ≥ 2 ^ 63)) = false := by
        rw [decide_eq_false (by omega), decide_eq_false (by omega)] <;> rfl
      have hi : its.toArray.isEmpty = false := by
        cases its with
        | nil => exact absurd rfl hn
        | cons a b => rfl
      have c1 : (its.toArray.isEmpty || k == 1) = false := by
        rw [hi, Bool.false_or]
        exact beq_eq_false_iff_ne.mpr (by omega)
      have c2 : (decide (k ≤ 0) || its.toArray.isEmpty) = true := by
        rw [decide_eq_true hk]
        rfl
      have e0 : (List.replicate k.toNat xs).flatten = ([] : List V) := by
        rw [show k.toNat = 0 by omega]
        rfl
      have q3 := q2 hs
      rw [e0] at q3
      refine wpAny_binaryOp_repeat_ref (T := "tuple") (U := "int") (by decide) ⟨_, ho, rfl⟩ (fun s' => typeIs_int s' k t) noFill_tuple_mul F.fills_int_mul F.slot_int_rmul repeat_tuple F.slot_int_index.lookup
        (call_meets F.slot_int_rmul (typeIs_int s k t) F.entry_int_rmul (F.args_int_rmul_2 _ _) (int_rmul_tuple k t l its.toArray n dd sl)
          ⟨ho, rfl, ⟨_, ho, rfl⟩, call_meets F.slot_tuple_mul ⟨_, ho, rfl⟩ F.entry_tuple_mul (F.args_tuple_mul_2 _ _) (tuple_mulE l its.toArray n sl dd k t c0 c1 c2) ⟨ho, ?_⟩⟩)
      refine ⟨.ref s.heap.objs.size, _, I.laid (t' := s.toks) (o := .tup []) (fun b ob q => Heap.get?_push_of_some _ q) (Nat.le_refl _) ?_, rfl, q3 _ (I.hok.fresh (Nat.le_refl _))⟩
      exact ⟨Nat.zero_le _, [], .nil, IsTup.new _ _⟩
    · exact op_repT pins s σ H _ _ v u Q I rx ry ⟨l, k, xs, rfl, rfl, hT, fun e => hs (.inl e), by
        have : k ≠ 1 := fun e => hs (.inr e)
        omega, h2, hz, q2 hs⟩
end
section
variable {T : Tx}
theorem Rs.rep {G : Hp} {xs : List D} {vs : List V} (h : Rs T G xs vs) : ∀ k : Nat, Rs T G (List.replicate k xs).flatten (List.replicate k vs).flatten
  | 0 => by show Rs T G [] []; unfold Rs; rfl
  | k + 1 => by
    rw [List.replicate_succ, List.flatten_cons, List.replicate_succ, List.flatten_cons]
    exact h.append (Rs.rep h k)
/-- a product: numbers; a list or a tuple some times -/
def mulX (m : Bool) (x y : Xv) (s : Sto) : Res := match x, y with
  | .d (.int i), .d (.int j) => if i.natAbs.log2 + j.natAbs.log2 < 1000000 then okI (i * j) s else .stuck
  | .d (.tup a), .d (.int k) => if -1000 ≤ k ∧ k ≤ 1000 ∧ a.length ≤ 1000 then .ok (.d (.tup (List.replicate k.toNat a).flatten)) s else .stuck
  | x, .d (.int k) => match viewL x s with
    | some a => if -1000000 ≤ k ∧ k ≤ 1000000 ∧ a.length * k.toNat ≤ 1000000 then mkL m (List.replicate k.toNat a).flatten s else .stuck
    | _ => .stuck
  | _, _ => .stuck
def rMulI : R2 := rI CMulW fun i j => .int (i * j)
theorem op_mulAll {X : Cx} : OpR X (binaryOp .Mult) (fun x y H Q => rMulI x y H Q ∨ rRepA X.K x y H Q ∨ rRep x y H Q) := op_mulW.or (op_repA.or op_rep)
theorem len_rep {α : Type} (xs : List α) (k : Nat) : (List.replicate k xs).flatten.length = k * xs.length := PyProof.Rows.lm_len_rep_flat _ _
theorem mul_ok {W : WX} {m : Bool} : Op2 T W (fun x y H Q => rMulI x y H Q ∨ rRepA T.K x y H Q ∨ rRep x y H Q) (mulX m) := by
  intro st w x y u v s H Q hx hy r p
  unfold mulX at p
  split at p
  · cases X_int hx
    cases X_int hy
    split at p
    · exact .inl ⟨_, _, rfl, rfl, by assumption, okI_q p r⟩
    · exact p.elim
  · rename_i a k
    cases X_int hy
    split at p
    · rename_i hb
      obtain ⟨pa, va, e1, e2, e3⟩ := viewT_ok (xs := a) r hx rfl
      subst e1
      have l1 := e3.length
      refine .inr (.inl ⟨pa, k, va, rfl, rfl, e2, hb.1, hb.2.1, by rw [← l1]; exact hb.2.2, fun z => ?_, fun z q hq => mkT_ok p r (e3.rep k.toNat) q hq⟩)
      have e : (List.replicate k.toNat a).flatten = a := by
        rcases z with z | z
        · subst z
          have ha : a = [] := List.eq_nil_of_length_eq_zero l1
          subst ha
          simp
        · subst z
          simp
      rw [e] at p
      exact postE_ok p hx r
    · exact p.elim
  · rename_i k _ _
    cases X_int hy
    split at p
    · rename_i a h1
      split at p
      · rename_i hb
        obtain ⟨pa, va, e1, e2, e3⟩ := viewL_ok r hx h1
        subst e1
        have l1 := e3.length
        refine .inr (.inr ⟨pa, k, va, rfl, rfl, e2, by omega, by omega, ?_, fun q hq => mkL_ok p r (e3.rep k.toNat) q hq⟩)
        rw [← l1, sizeLine_eq]
        omega
      · exact p.elim
    · exact p.elim
  · exact p.elim
theorem pf_mul {X : Cx} {W : WX} {a b : Expr} {f g : FE} {pos : Pos} (m : Bool) (hK : X.K = T.K) (ha : PF T X W a f) (hb : PF T X W b g) : PF T X W (.BinOp a .Mult b pos) (op2F (mulX m) f g) :=
  pf_op op_mulAll (by rw [hK]; exact mul_ok) ha hb
/-- -a -/
def negF (f : FE) : FE := fun ρ s => (f ρ s).bind fun x s1 => match x with | .d (.int i) => okI (-i) s1 | _ => .stuck
theorem pf_neg {X : Cx} {W : WX} {a : Expr} {f : FE} {pos : Pos} (ha : PF T X W a f) : PF T X W (.UnaryOp .USub a pos) (negF f) :=
  PE.imp (pe_un un_neg ha) fun st H Q ⟨w, ρ, s, e, q, p⟩ => rdE_mono (postE_bind e q p) fun u H1 ⟨w1, x, s1, l1, e1, x1, r1, p1⟩ => by
    split at p1
    · cases X_int x1
      exact ⟨_, rfl, okI_q p1 r1⟩
    · exact p1.elim

/-! ### comparisons -/
theorem int2B_ok {W : WX} {k : Int → Int → Bool} : Op2 T W (rI0 fun i j => .bl (k i j)) (int2 cYes fun i j => .bl (k i j)) := by
  intro st w x y u v s H Q hx hy r p
  unfold int2 at p
  split at p
  · cases X_int hx
    cases X_int hy
    have p' := (if_pos (show cYes _ _ = true from rfl)) ▸ p
    exact ⟨_, _, rfl, rfl, postE_ok p' rX_bl r⟩
  · exact p.elim
theorem int2_bl {c : Int → Int → Bool} {k : Int → Int → Bool} : Bl2 (int2 c fun i j => .bl (k i j)) := fun x y s => by
  unfold int2
  split
  · split
    · exact .inl ⟨_, _, rfl⟩
    · exact .inr rfl
  · exact .inr rfl
def ltX : Xv → Xv → Sto → Res := int2 cYes fun i j => .bl (decide (i < j))
def leX : Xv → Xv → Sto → Res := int2 cYes fun i j => .bl (decide (i ≤ j))
def gtX : Xv → Xv → Sto → Res := int2 cYes fun i j => .bl (decide (j < i))
def geX : Xv → Xv → Sto → Res := int2 cYes fun i j => .bl (decide (j ≤ i))
/-! the plain data of a datum -/
mutual
def toP : D → PyData
  | .bl b => .bool b
  | .int i => .int i
  | .str x => .str x
  | .tup xs => .tuple (toPs xs)
  | .lst xs => .list (toPs xs)
  | _ => .none
def toPs : List D → List PyData
  | [] => []
  | d :: ds => toP d :: toPs ds
end
/-- plain data of little depth -/
def flatS : Nat → D → Bool
  | _, .non => true
  | _, .bl _ => true
  | _, .int _ => true
  | _, .str x => PyData.canLay0 (.str x)
  | n + 1, .tup xs => xs.all (flatS n)
  | n + 1, .lst xs => xs.all (flatS n)
  | _, _ => false
theorem toPs_lay : ∀ {xs : List D}, (∀ x ∈ xs, (toP x).canLay0 = true) → PyData.canLayAll0 (toPs xs) = true
  | [], _ => by unfold toPs; rfl
  | d :: ds, h => by
    unfold toPs
    unfold PyData.canLayAll0
    rw [h d (List.mem_cons_self ..), toPs_lay fun x hx => h x (List.mem_cons_of_mem _ hx)]
    rfl
theorem toPs_dep {n : Nat} : ∀ {xs : List D}, (∀ x ∈ xs, (toP x).depth ≤ n) → PyData.depthAll (toPs xs) ≤ n
  | [], _ => by unfold toPs; unfold PyData.depthAll; exact Nat.zero_le _
  | d :: ds, h => by
    unfold toPs
    unfold PyData.depthAll
    exact Nat.max_le.mpr ⟨h d (List.mem_cons_self ..), toPs_dep fun x hx => h x (List.mem_cons_of_mem _ hx)⟩
theorem flatS_ok : ∀ {n : Nat} {d : D}, flatS n d = true → (toP d).canLay0 = true ∧ (toP d).depth ≤ n
  | n, .non, _ => by unfold toP; unfold PyData.canLay0 PyData.depth; exact ⟨rfl, Nat.zero_le _⟩
  | n, .bl _, _ => by unfold toP; unfold PyData.canLay0 PyData.depth; exact ⟨rfl, Nat.zero_le _⟩
  | n, .int _, _ => by unfold toP; unfold PyData.canLay0 PyData.depth; exact ⟨rfl, Nat.zero_le _⟩
  | n, .str x, h => by
    have h' : PyData.canLay0 (.str x) = true := by cases n <;> exact h
    unfold toP
    refine ⟨h', ?_⟩
    unfold PyData.depth
    exact Nat.zero_le _
  | 0, .tup xs, h => by cases h
  | 0, .lst xs, h => by cases h
  | n + 1, .tup xs, h => by
    have h' : xs.all (flatS n) = true := h
    rw [List.all_eq_true] at h'
    unfold toP
    unfold PyData.canLay0 PyData.depth
    exact ⟨toPs_lay fun x hx => (flatS_ok (h' x hx)).1, Nat.succ_le_succ (toPs_dep fun x hx => (flatS_ok (h' x hx)).2)⟩
  | n + 1, .lst xs, h => by
    have h' : xs.all (flatS n) = true := h
    rw [List.all_eq_true] at h'
    unfold toP
    unfold PyData.canLay0 PyData.depth
    exact ⟨toPs_lay fun x hx => (flatS_ok (h' x hx)).1, Nat.succ_le_succ (toPs_dep fun x hx => (flatS_ok (h' x hx)).2)⟩
  | n, .ty _, h => by cases n <;> cases h
  | n, .adr _, h => by cases n <;> cases h
  | n, .cls _, h => by cases n <;> cases h
  | n, .scr _, h => by cases n <;> cases h
  | n, .obj _ _ _, h => by cases n <;> cases h
  | n, .exc _ _ _, h => by cases n <;> cases h
theorem flatS_shaped {d : D} (h : flatS 32 d = true) : SeqAt.shaped (toP d) = true := by
  obtain ⟨h1, h2⟩ := flatS_ok h
  unfold SeqAt.shaped
  rw [h1, decide_eq_true (show (toP d).depth ≤ 64 by omega)]
  rfl
mutual
theorem dp_of {K : PySem.W.Frag} {G H : Hp} (hK : K = T.K) (g : Same G H) : ∀ {n : Nat} {d : D} {v : V}, flatS n d = true → R T G d v → Dp K H v (toP d)
  | n, .non, _, _, e => by unfold R at e; subst e; unfold toP; exact .non
  | n, .bl _, _, _, e => by unfold R at e; subst e; unfold toP; exact .bl _
  | n, .int _, _, _, e => by unfold R at e; subst e; unfold toP; exact .int _
  | n, .str x, _, _, e => by unfold R at e; subst e; unfold toP; exact .str _
  | 0, .tup xs, _, h, _ => by cases h
  | 0, .lst xs, _, h, _ => by cases h
  | n + 1, .tup xs, v, h, e => by
    unfold R at e
    obtain ⟨a, vs, e1, e2, e3⟩ := e
    subst e1 hK
    unfold toP
    exact .tup (sqT_mono g e2) (dps_of rfl g (n := n) (List.all_eq_true.mp h) e3)
  | n + 1, .lst xs, v, h, e => by
    unfold R at e
    obtain ⟨a, vs, e1, e2, e3⟩ := e
    subst e1 hK
    unfold toP
    exact .lst (.of (g _ _ e2)) (dps_of rfl g (n := n) (List.all_eq_true.mp h) e3)
  | n, .ty _, _, h, _ => by cases n <;> cases h
  | n, .adr _, _, h, _ => by cases n <;> cases h
  | n, .cls _, _, h, _ => by cases n <;> cases h
  | n, .scr _, _, h, _ => by cases n <;> cases h
  | n, .obj _ _ _, _, h, _ => by cases n <;> cases h
  | n, .exc _ _ _, _, h, _ => by cases n <;> cases h
theorem dps_of {K : PySem.W.Frag} {G H : Hp} (hK : K = T.K) (g : Same G H) : ∀ {n : Nat} {ds : List D} {vs : List V}, (∀ x ∈ ds, flatS n x = true) → Rs T G ds vs → DpAll K H vs (toPs ds)
  | n, [], vs, _, e => by
    unfold Rs at e
    subst e
    unfold toPs
    exact .nil
  | n, d :: ds, vs, h, e => by
    unfold Rs at e
    obtain ⟨v, r, e1, e2, e3⟩ := e
    subst e1
    unfold toPs
    exact .cons (dp_of hK g (h d (List.mem_cons_self ..)) e2) (dps_of hK g (fun x hx => h x (List.mem_cons_of_mem _ hx)) e3)
end
/-- the data that == sees -/
def eqView : Xv → Sto → Option D
  | .d x, _ => some x
  | .ref i, s => match s[i]? with | some (.lst xs) => some (.lst xs) | _ => none
theorem eqView_ok {w : Wd} {s : Sto} {H : Hp} {x : Xv} {u : V} {d : D} {n : Nat} (hK : T.K = T.K) (r : RS T w s H) (e : RX T w x u) (h : eqView x s = some d) (hf : flatS n d = true) : Dp T.K H u (toP d) := by
  cases x with
  | d x =>
    cases h
    exact dp_of rfl r.g hf e
  | ref i =>
    unfold eqView at h
    dsimp only at h
    split at h
    · rename_i xs q
      cases h
      obtain ⟨a, vs, e1, e2, e3⟩ := viewL_ok (xs := xs) r e (by unfold viewL; dsimp only; rw [q])
      subst e1
      cases n with
      | zero => cases hf
      | succ n =>
        unfold toP
        exact .lst (.of e2) (dps_of rfl r.g (List.all_eq_true.mp hf) e3)
    · cases h
def eqX (neg : Bool) (x y : Xv) (s : Sto) : Res := match eqView x s, eqView y s with
  | some a, some b => if (flatS 32 a && flatS 32 b) = true then okB (if neg then !PyData.eqv (toP a) (toP b) else PyData.eqv (toP a) (toP b)) s else .stuck
  | _, _ => .stuck
theorem eq_ok {W : WX} : Op2 T W (rEqD T.K) (eqX false) := by
  intro st w x y u v s H Q hx hy r p
  unfold eqX at p
  split at p
  · rename_i a b h1 h2
    split at p
    · rename_i hf
      rw [Bool.and_eq_true] at hf
      exact ⟨_, _, eqView_ok rfl r hx h1 hf.1, eqView_ok rfl r hy h2 hf.2, flatS_shaped hf.1, flatS_shaped hf.2, okB_q p r⟩
    · exact p.elim
  · exact p.elim
theorem ne_ok {W : WX} : Op2 T W (rNeD T.K) (eqX true) := by
  intro st w x y u v s H Q hx hy r p
  unfold eqX at p
  split at p
  · rename_i a b h1 h2
    split at p
    · rename_i hf
      rw [Bool.and_eq_true] at hf
      exact ⟨_, _, eqView_ok rfl r hx h1 hf.1, eqView_ok rfl r hy h2 hf.2, flatS_shaped hf.1, flatS_shaped hf.2, okB_q p r⟩
    · exact p.elim
  · exact p.elim
theorem eqX_bl {n : Bool} : Bl2 (eqX n) := fun x y s => by
  unfold eqX
  split
  · split
    · exact .inl ⟨_, _, rfl⟩
    · exact .inr rfl
  · exact .inr rfl
/-- is None -/
def isNoneX (neg : Bool) (x y : Xv) (s : Sto) : Res := match y with
  | .d .non => match x with
    | .d .non => okB (!neg) s
    | _ => okB neg s
  | _ => .stuck
theorem isNoneX_bl {n : Bool} : Bl2 (isNoneX n) := fun x y s => by
  unfold isNoneX
  split
  · split
    · exact .inl ⟨_, _, rfl⟩
    · exact .inl ⟨_, _, rfl⟩
  · exact .inr rfl
theorem non_ref {a : Addr} (h : V.non = V.ref a) : False := nomatch h
theorem R_notnon {G : Hp} {d : D} {v : V} (h : R T G d v) (hd : d ≠ .non) : v ≠ .non := by
  intro e
  subst e
  cases d with
  | non => exact hd rfl
  | bl b => unfold R at h; exact nomatch h
  | int b => unfold R at h; exact nomatch h
  | str b => unfold R at h; exact nomatch h
  | ty b => unfold R at h; exact nomatch h
  | adr b => unfold R at h; exact nomatch h
  | cls b => unfold R at h; exact nomatch h
  | tup xs => unfold R at h; obtain ⟨_, _, h, _⟩ := h; exact non_ref h
  | lst xs => unfold R at h; obtain ⟨_, _, h, _⟩ := h; exact non_ref h
  | scr xs => unfold R at h; obtain ⟨_, h, _⟩ := h; exact non_ref h
  | obj c ns xs => unfold R at h; obtain ⟨_, _, _, h, _⟩ := h; exact non_ref h
  | exc c ns xs => unfold R at h; obtain ⟨_, _, _, h, _⟩ := h; exact non_ref h
theorem X_notnon {w : Wd} {x : Xv} {v : V} (h : RX T w x v) (hd : x ≠ .d .non) : v ≠ .non := by
  cases x with
  | d x => exact R_notnon h fun e => hd (by rw [e])
  | ref i =>
    obtain ⟨a, _, e⟩ := h
    rw [e]
    exact fun z => nomatch z
theorem isNone_ok {W : WX} : Op2 T W (fun x y H Q => y = .non ∧ Q (.bl (decide (x = .non))) H) (isNoneX false) := by
  intro st w x y u v s H Q hx hy r p
  unfold isNoneX at p
  split at p
  · cases X_non hy
    split at p
    · cases X_non hx
      exact ⟨rfl, okB_q p r⟩
    · rename_i hn
      refine ⟨rfl, ?_⟩
      rw [decide_eq_false (X_notnon hx hn)]
      exact okB_q p r
  · exact p.elim
theorem notNone_ok {W : WX} : Op2 T W (fun x y H Q => y = .non ∧ Q (.bl (!decide (x = .non))) H) (isNoneX true) := by
  intro st w x y u v s H Q hx hy r p
  unfold isNoneX at p
  split at p
  · cases X_non hy
    split at p
    · cases X_non hx
      exact ⟨rfl, okB_q p r⟩
    · rename_i hn
      refine ⟨rfl, ?_⟩
      rw [decide_eq_false (X_notnon hx hn)]
      exact okB_q p r
  · exact p.elim
/-- is of two truth values -/
def isBlX (neg : Bool) (x y : Xv) (s : Sto) : Res := match x, y with
  | .d (.bl a), .d (.bl b) => okB (if neg then !decide (a = b) else decide (a = b)) s
  | _, _ => .stuck
theorem isBlX_bl {n : Bool} : Bl2 (isBlX n) := fun x y s => by
  unfold isBlX
  split
  · exact .inl ⟨_, _, rfl⟩
  · exact .inr rfl
theorem isBl_ok {W : WX} : Op2 T W rIsB (isBlX false) := by
  intro st w x y u v s H Q hx hy r p
  unfold isBlX at p
  split at p
  · cases X_bl hx
    cases X_bl hy
    exact ⟨_, _, rfl, rfl, okB_q p r⟩
  · exact p.elim
theorem notBl_ok {W : WX} : Op2 T W rNotB (isBlX true) := by
  intro st w x y u v s H Q hx hy r p
  unfold isBlX at p
  split at p
  · cases X_bl hx
    cases X_bl hy
    exact ⟨_, _, rfl, rfl, okB_q p r⟩
  · exact p.elim
end
end FL

set_option Elab.async false
set_option linter.all false
set_option maxRecDepth 100000
set_option maxHeartbeats 4000000
namespace FL
open PySem PySem.Spec PyProof.Rows L2
section
variable {T : Tx} {X : Cx} {W : WX}
abbrev PFW (T : Tx) (X : Cx) (W : WX) (e : Expr) (f : FE) : Prop := PW X e (rdT T W f)
theorem PW.imp {X : Cx} {e : Expr} {t t' : TT} (h : PW X e t) (k : ∀ st H Q, t' st H Q → t st H Q) : PW X e t' := ⟨fun wh pins s σ H Q I q => h.run wh pins s σ H Q I (k _ _ _ q)⟩

/-! ### and, or, not, if-else -/
def andF (f g : FE) : FE := fun ρ s => (f ρ s).bind fun x s1 => match x with | .d (.bl true) => g ρ s1 | .d (.bl false) => okB false s1 | _ => .stuck
def orF (f g : FE) : FE := fun ρ s => (f ρ s).bind fun x s1 => match x with | .d (.bl true) => okB true s1 | .d (.bl false) => g ρ s1 | _ => .stuck
def notF (f : FE) : FE := fun ρ s => (f ρ s).bind fun x s1 => match x with | .d (.bl b) => okB (!b) s1 | _ => .stuck
def ifF (c f g : FE) : FE := fun ρ s => (c ρ s).bind fun x s1 => match truth x s1 with | some true => f ρ s1 | some false => g ρ s1 | none => .stuck
theorem pf_one {op} {a : Expr} {f : FE} {pos : Pos} (h : PF T X W a f) : PF T X W (.BoolOp op [a] pos) f := pe_one h
theorem pf_and {a b : Expr} {rest : List Expr} {f g : FE} {pos : Pos} (ha : PF T X W a f) (hb : PF T X W (.BoolOp .And (b :: rest) pos) g) : PF T X W (.BoolOp .And (a :: b :: rest) pos) (andF f g) :=
  PE.imp (pe_and ha hb) fun st H Q ⟨w, ρ, s, e, q, p⟩ => rdE_mono (postE_bind e q p) fun u H1 ⟨w1, x, s1, l1, e1, x1, r1, p1⟩ => by
    split at p1
    · cases X_bl x1
      exact ⟨true, rfl, by rw [if_pos rfl]; exact ⟨w1, ρ, s1, e1, r1, p1⟩⟩
    · cases X_bl x1
      exact ⟨false, rfl, by rw [if_neg Bool.false_ne_true]; exact okB_q p1 r1⟩
    · exact p1.elim
theorem pf_or {a b : Expr} {rest : List Expr} {f g : FE} {pos : Pos} (ha : PF T X W a f) (hb : PF T X W (.BoolOp .Or (b :: rest) pos) g) : PF T X W (.BoolOp .Or (a :: b :: rest) pos) (orF f g) :=
  PE.imp (pe_or ha hb) fun st H Q ⟨w, ρ, s, e, q, p⟩ => rdE_mono (postE_bind e q p) fun u H1 ⟨w1, x, s1, l1, e1, x1, r1, p1⟩ => by
    split at p1
    · cases X_bl x1
      exact ⟨true, rfl, by rw [if_pos rfl]; exact okB_q p1 r1⟩
    · cases X_bl x1
      exact ⟨false, rfl, by rw [if_neg Bool.false_ne_true]; exact ⟨w1, ρ, s1, e1, r1, p1⟩⟩
    · exact p1.elim
theorem pf_not {a : Expr} {f : FE} {pos : Pos} (ha : PF T X W a f) : PF T X W (.UnaryOp .Not a pos) (notF f) :=
  PE.imp (pe_not ha) fun st H Q ⟨w, ρ, s, e, q, p⟩ => rdE_mono (postE_bind e q p) fun u H1 ⟨w1, x, s1, l1, e1, x1, r1, p1⟩ => by
    split at p1
    · cases X_bl x1
      exact ⟨_, rfl, okB_q p1 r1⟩
    · exact p1.elim
/-- a test bound to what follows -/
theorem postT_bindT {st : L2.St} {w : Wd} {ρ : Env'} {s : Sto} {H : Hp} {f : FE} {k : Xv → Sto → Res} {Q : Bool → Hp → Prop} (e : RE T w ρ st) (r : RS T w s H) (p : PostT T W st w ((f ρ s).bind k) Q) (hk : ∀ x s1, (∃ b, truth x s1 = some b) ∨ k x s1 = .stuck) :
    rdT T W f st H fun b H1 => ∃ w1 v s1, truth v s1 = some b ∧ Le w w1 ∧ RE T w1 ρ st ∧ RS T w1 s1 H1 ∧ PostT T W st w1 (k v s1) Q := by
  refine ⟨w, ρ, s, e, r, ?_⟩
  cases h : f ρ s with
  | ok v s1 =>
    rw [h] at p
    rcases hk v s1 with ⟨b, eb⟩ | ek
    · exact ⟨b, eb, fun w1 H1 l y => ⟨w1, v, s1, eb, l, e.mono l, y, PostT.mono l p⟩⟩
    · have p' : PostT T W st w (k v s1) Q := p
      rw [ek] at p'
      exact p'.elim
  | exc x s1 =>
    rw [h] at p
    exact p
  | stuck =>
    rw [h] at p
    exact p
theorem okB_t {st : L2.St} {w : Wd} {s : Sto} {H : Hp} {Q : Bool → Hp → Prop} {b : Bool} (p : PostT T W st w (okB b s) Q) (r : RS T w s H) : Q b H := by
  obtain ⟨b', e, q⟩ := p
  cases e
  exact q w H (.refl _) r
theorem pfw_and1 {a : Expr} {f : FE} {pos : Pos} (ha : PFT T X W a f) : PFW T X W (.BoolOp .And [a] pos) f := pw_and1 ha
theorem pfw_or1 {a : Expr} {f : FE} {pos : Pos} (ha : PFT T X W a f) : PFW T X W (.BoolOp .Or [a] pos) f := pw_or1 ha
theorem pfw_and {a b : Expr} {rest : List Expr} {f g : FE} {pos : Pos} (ha : PFT T X W a f) (hb : PFW T X W (.BoolOp .And (b :: rest) pos) g) : PFW T X W (.BoolOp .And (a :: b :: rest) pos) (andF f g) :=
  PW.imp (pw_and ha hb) fun st H Q ⟨w, ρ, s, e, q, p⟩ => rdT_mono (postT_bindT e q p (fun x s1 => by
      split
      · exact .inl ⟨true, rfl⟩
      · exact .inl ⟨false, rfl⟩
      · exact .inr rfl)) fun b H1 ⟨w1, x, s1, eb, l1, e1, r1, p1⟩ => by
    split at p1
    · cases eb
      rw [if_pos rfl]
      exact ⟨w1, ρ, s1, e1, r1, p1⟩
    · cases eb
      rw [if_neg Bool.false_ne_true]
      exact okB_t p1 r1
    · exact p1.elim
theorem pfw_or {a b : Expr} {rest : List Expr} {f g : FE} {pos : Pos} (ha : PFT T X W a f) (hb : PFW T X W (.BoolOp .Or (b :: rest) pos) g) : PFW T X W (.BoolOp .Or (a :: b :: rest) pos) (orF f g) :=
  PW.imp (pw_or ha hb) fun st H Q ⟨w, ρ, s, e, q, p⟩ => rdT_mono (postT_bindT e q p (fun x s1 => by
      split
      · exact .inl ⟨true, rfl⟩
      · exact .inl ⟨false, rfl⟩
      · exact .inr rfl)) fun b H1 ⟨w1, x, s1, eb, l1, e1, r1, p1⟩ => by
    split at p1
    · cases eb
      rw [if_pos rfl]
      exact okB_t p1 r1
    · cases eb
      rw [if_neg Bool.false_ne_true]
      exact ⟨w1, ρ, s1, e1, r1, p1⟩
    · exact p1.elim
theorem pft_w {e : Expr} {f : FE} (h : PFW T X W e f) : PFT T X W e f := PW.pt h
theorem pft_not {a : Expr} {f : FE} {pos : Pos} (ha : PFT T X W a f) : PFT T X W (.UnaryOp .Not a pos) (notF f) :=
  PT.imp (pt_not ha) fun st H Q ⟨w, ρ, s, e, q, p⟩ => rdT_mono (postT_bindT e q p (fun x s1 => by
      split
      · exact .inl ⟨_, rfl⟩
      · exact .inr rfl)) fun b H1 ⟨w1, x, s1, eb, l1, e1, r1, p1⟩ => by
    split at p1
    · cases eb
      exact okB_t p1 r1
    · exact p1.elim
/-- not of anything, by its truth -/
def notTF (f : FE) : FE := fun ρ s => (f ρ s).bind fun x s1 => match truth x s1 with | some b => okB (!b) s1 | none => .stuck
theorem pft_notT {a : Expr} {f : FE} {pos : Pos} (ha : PFT T X W a f) : PFT T X W (.UnaryOp .Not a pos) (notTF f) :=
  PT.imp (pt_not ha) fun st H Q ⟨w, ρ, s, e, q, p⟩ => rdT_mono (postT_bindT e q p (fun x s1 => by
      cases h : truth x s1 with
      | some b => exact .inl ⟨_, rfl⟩
      | none => exact .inr rfl)) fun b H1 ⟨w1, x, s1, eb, l1, e1, r1, p1⟩ => by
    rw [eb] at p1
    exact okB_t p1 r1
theorem postE_bindT {st : L2.St} {w : Wd} {ρ : Env'} {s : Sto} {H : Hp} {f : FE} {k : Xv → Sto → Res} {Q : VK} (e : RE T w ρ st) (r : RS T w s H) (p : PostE T W st w ((f ρ s).bind k) Q) (hk : ∀ x s1, (∃ b, truth x s1 = some b) ∨ k x s1 = .stuck) :
    rdT T W f st H fun b H1 => ∃ w1 v s1, truth v s1 = some b ∧ Le w w1 ∧ RE T w1 ρ st ∧ RS T w1 s1 H1 ∧ PostE T W st w1 (k v s1) Q := by
  refine ⟨w, ρ, s, e, r, ?_⟩
  cases h : f ρ s with
  | ok v s1 =>
    rw [h] at p
    rcases hk v s1 with ⟨b, eb⟩ | ek
    · exact ⟨b, eb, fun w1 H1 l y => ⟨w1, v, s1, eb, l, e.mono l, y, PostE.mono l p⟩⟩
    · have p' : PostE T W st w (k v s1) Q := p
      rw [ek] at p'
      exact p'.elim
  | exc x s1 =>
    rw [h] at p
    exact p
  | stuck =>
    rw [h] at p
    exact p
theorem pf_if {c a b : Expr} {h f g : FE} {pos : Pos} (hc : PFT T X W c h) (ha : PF T X W a f) (hb : PF T X W b g) : PF T X W (.IfExp c a b pos) (ifF h f g) :=
  PE.imp (pe_ifExp hc ha hb) fun st H Q ⟨w, ρ, s, e, q, p⟩ => rdT_mono (postE_bindT e q p (fun x s1 => by
      cases h : truth x s1 with
      | some b => exact .inl ⟨_, rfl⟩
      | none => exact .inr rfl)) fun b H1 ⟨w1, x, s1, eb, l1, e1, r1, p1⟩ => by
    rw [eb] at p1
    cases b with
    | true =>
      rw [if_pos rfl]
      exact ⟨w1, ρ, s1, e1, r1, p1⟩
    | false =>
      rw [if_neg Bool.false_ne_true]
      exact ⟨w1, ρ, s1, e1, r1, p1⟩
/-- a < b < c -/
def chainK (o' : Xv → Xv → Sto → Res) (h : FE) (ρ : Env') (y : Xv) (z : Xv) (s3 : Sto) : Res := match z with
  | .d (.bl true) => (h ρ s3).bind fun v s4 => o' y v s4
  | .d (.bl false) => okB false s3
  | _ => .stuck
def chainF (o o' : Xv → Xv → Sto → Res) (f g h : FE) : FE := fun ρ s => (f ρ s).bind fun x s1 => (g ρ s1).bind fun y s2 => (o x y s2).bind (chainK o' h ρ y)
theorem rd_chain {r r' : R2} {o o' : Xv → Xv → Sto → Res} {f g h : FE} (h1 : Op2 T W r o) (h2 : Op2 T W r' o') {st : L2.St} {H : Hp} {Q : VK} (k : rdE T W (chainF o o' f g h) st H Q) : tChain r r' (rdE T W f) (rdE T W g) (rdE T W h) st H Q := by
  obtain ⟨w, ρ, s, e, q, p⟩ := k
  refine rdE_mono (postE_bind e q p) fun u H1 ⟨w1, x, s1, l1, e1, x1, r1, p1⟩ => rdE_mono (postE_bind e1 r1 p1) fun v H2 ⟨w2, y, s2, l2, e2, x2, r2, p2⟩ => ?_
  refine h1 st w2 x y u v s2 H2 _ (x1.mono l2) x2 r2 ?_
  revert p2
  show PostE T W st w2 ((o x y s2).bind _) Q → _
  cases o x y s2 with
  | exc a b => exact fun p => p
  | stuck => exact fun p => p
  | ok z s3 =>
    intro p2 w3 u3 H3 l3 x3 r3
    have p3 := PostE.mono l3 (show PostE T W st w2 (chainK o' h ρ y z s3) Q from p2)
    unfold chainK at p3
    split at p3
    · cases X_bl x3
      refine ⟨true, rfl, ?_⟩
      rw [if_pos rfl]
      exact rdE_mono (postE_bind (e2.mono l3) r3 p3) fun v4 H4 ⟨w4, z4, s4, l4, e4, x4, r4, p4⟩ => h2 st w4 y z4 v v4 s4 H4 Q ((x2.mono l3).mono l4) x4 r4 p4
    · cases X_bl x3
      refine ⟨false, rfl, ?_⟩
      rw [if_neg Bool.false_ne_true]
      exact okB_q p3 r3
    · exact p3.elim
theorem pf_chain {op op' : CmpOp} {r r' : R2} {o o' : Xv → Xv → Sto → Res} {a b c : Expr} {f g h : FE} {pos : Pos} (ho : OpR X (compareOp op) r) (ho' : OpR X (compareOp op') r') (h1 : Op2 T W r o) (h2 : Op2 T W r' o') (ha : PF T X W a f) (hb : PF T X W b g) (hc : PF T X W c h)
    (hm : lastMarks [op, op'] [b, c] = false := by with_unfolding_all rfl) : PF T X W (.Compare a [op, op'] [b, c] pos) (chainF o o' f g h) := PE.imp (pe_chain ho ho' ha hb hc hm) fun _ _ _ => rd_chain h1 h2
/-- what gives truth values alone -/
def BlF (f : FE) : Prop := ∀ ρ s, match f ρ s with | .ok v _ => ∃ b, v = .d (.bl b) | _ => True
theorem rdT_bl {f : FE} (hf : BlF f) {st : L2.St} {H : Hp} {Q : Bool → Hp → Prop} (k : rdT T W f st H Q) : rdE T W f st H fun u H1 => ∃ k, u = .bl k ∧ Q k H1 := by
  obtain ⟨w, ρ, s, e, q, p⟩ := k
  refine ⟨w, ρ, s, e, q, ?_⟩
  have hb := hf ρ s
  revert p hb
  cases f ρ s with
  | exc a b => exact fun p _ => p
  | stuck => exact fun p _ => p
  | ok x s1 =>
    rintro ⟨b, eb, p⟩ ⟨b', ex⟩ w1 u H1 l x1 y1
    subst ex
    cases eb
    exact ⟨b, X_bl x1, p w1 H1 l y1⟩
theorem chainF_bl {o o' : Xv → Xv → Sto → Res} {f g h : FE} (h2 : Bl2 o') : BlF (chainF o o' f g h) := fun ρ s => by
  unfold chainF
  cases f ρ s with
  | exc a b => exact True.intro
  | stuck => exact True.intro
  | ok x s1 =>
    show match (g ρ s1).bind _ with | .ok v _ => ∃ b, v = .d (.bl b) | _ => True
    cases g ρ s1 with
    | exc a b => exact True.intro
    | stuck => exact True.intro
    | ok y s2 =>
      show match (o x y s2).bind _ with | .ok v _ => ∃ b, v = .d (.bl b) | _ => True
      cases o x y s2 with
      | exc a b => exact True.intro
      | stuck => exact True.intro
      | ok z s3 =>
        show match chainK o' h ρ y z s3 with | .ok v _ => ∃ b, v = .d (.bl b) | _ => True
        unfold chainK
        split
        · rename_i v1 s5 e5
          split at e5
          · revert e5
            cases h ρ s3 with
            | exc a b => exact fun e => nomatch e
            | stuck => exact fun e => nomatch e
            | ok v s4 =>
              intro e5
              have e5' : o' y v s4 = .ok v1 s5 := e5
              rcases h2 y v s4 with ⟨b, s', e⟩ | e
              · rw [e] at e5'
                cases e5'
                exact ⟨b, rfl⟩
              · rw [e] at e5'
                cases e5'
          · cases e5
            exact ⟨_, rfl⟩
          · cases e5
        · exact True.intro
end
end FL

set_option Elab.async false
set_option linter.all false
set_option maxRecDepth 100000
set_option maxHeartbeats 4000000
namespace FL
open PySem PySem.Spec PyProof.Rows L2
section
variable {T : Tx} {X : Cx} {W : WX}
/-! ### argument lists, displays -/
def nilA : FA := fun _ s => .ok [] s
def consA (f : FE) (g : FA) : FA := fun ρ s => (f ρ s).bindA fun x s1 => (g ρ s1).bindA fun xs s2 => .ok (x :: xs) s2
theorem pfa_nil : PFA T X W [] nilA := PA.imp pa_nil fun st H Q ⟨w, ρ, s, e, q, p⟩ => p w [] H (.refl _) rfl q
theorem pfa_cons {e : Expr} {es : List Expr} {f : FE} {g : FA} (ha : PF T X W e f) (hr : PFA T X W es g) (hs : starEach (e :: es) X.env = (false, eval e X.env) :: starEach es X.env := by rfl) : PFA T X W (e :: es) (consA f g) :=
  PA.imp (pa_cons ha hr hs) fun st H Q ⟨w, ρ, s, e, q, p⟩ => rdE_mono (postA_bind e q p) fun u H1 ⟨w1, x, s1, l1, e1, x1, r1, p1⟩ => rdA_mono (postA_bindL e1 r1 p1) fun us H2 ⟨w2, xs, s2, l2, e2, x2, r2, p2⟩ =>
    p2 w2 (u :: us) H2 (.refl _) (.cons (x1.mono l2) x2) r2
/-- all are plain data -/
def pureAll : List Xv → Option (List D)
  | [] => some []
  | .d x :: xs => match pureAll xs with | some r => some (x :: r) | none => none
  | .ref _ :: _ => none
theorem pureAll_ok {w : Wd} : ∀ {xs : List Xv} {ds : List D} {vs : List V}, pureAll xs = some ds → RXs T w xs vs → Rs T w.G ds vs
  | [], ds, vs, h, e => by
    cases h
    have e' : vs = [] := e
    subst e'
    unfold Rs
    rfl
  | .d x :: xs, ds, vs, h, ⟨v, r, e1, e2, e3⟩ => by
    unfold pureAll at h
    split at h
    · rename_i r' q
      cases h
      subst e1
      exact .cons e2 (pureAll_ok q e3)
    · cases h
  | .ref _ :: _, _, _, h, _ => by cases h
def tupF (g : FA) : FE := fun ρ s => (g ρ s).bind fun xs s1 => match pureAll xs with
  | some ds => if ds.length ≤ 1000000 then .ok (.d (.tup ds)) s1 else .stuck
  | none => .stuck
def lstF (m : Bool) (g : FA) : FE := fun ρ s => (g ρ s).bind fun xs s1 => match pureAll xs with
  | some ds => if ds.length ≤ 1000000 then mkL m ds s1 else .stuck
  | none => .stuck
theorem le_line {n : Nat} (h : n ≤ 1000000) : n ≤ sizeLine := by rw [sizeLine_eq]; omega
theorem pf_tup {es : List Expr} {g : FA} {x1} {pos : Pos} (h : PFA T X W es g) : PF T X W (.Tuple es x1 pos) (tupF g) :=
  PE.imp (pe_tup h) fun st H Q ⟨w, ρ, s, e, q, p⟩ => rdA_mono (postE_bindL e q p) fun us H1 ⟨w1, xs, s1, l1, e1, x1, r1, p1⟩ => by
    split at p1
    · rename_i ds hd
      split at p1
      · rename_i hl
        have k := pureAll_ok hd x1
        exact ⟨by rw [← k.length]; exact le_line hl, fun a ha => mkT_ok p1 r1 k a ha⟩
      · exact p1.elim
    · exact p1.elim
theorem pf_lst {es : List Expr} {g : FA} {pos : Pos} (m : Bool) (h : PFA T X W es g) : PF T X W (.List es pos) (lstF m g) :=
  PE.imp (pe_lst h) fun st H Q ⟨w, ρ, s, e, q, p⟩ => rdA_mono (postE_bindL e q p) fun us H1 ⟨w1, xs, s1, l1, e1, x1, r1, p1⟩ => by
    split at p1
    · rename_i ds hd
      split at p1
      · rename_i hl
        have k := pureAll_ok hd x1
        exact ⟨by rw [← k.length]; exact le_line hl, fun a ha => mkL_ok p1 r1 k a ha⟩
      · exact p1.elim
    · exact p1.elim

/-! ### a[i] -/
theorem Rs.atI {G : Hp} {xs : List D} {vs : List V} {i : Int} {x : D} (h : Rs T G xs vs) (e : atI xs i = some x) : ∃ v, L2.atI vs i = some v ∧ R T G x v := by
  unfold L2.atI at e ⊢
  rw [← h.length]
  cases k : ixN xs.length i with
  | none => rw [k] at e; cases e
  | some j =>
    rw [k] at e
    exact h.get e
def ixX (x y : Xv) (s : Sto) : Res := match y with
  | .d (.int i) => match x with
    | .d (.tup xs) => match atI xs i with | some v => .ok (.d v) s | none => .stuck
    | .d (.str z) => if z.length ≤ sizeLine then match atI z.cps.toList i with | some c => .ok (.d (.str ⟨#[c]⟩)) s | none => .stuck else .stuck
    | .d (.scr ns) => match atI ns i with | some v => okI v s | none => .stuck
    | x => match viewL x s with
      | some xs => match atI xs i with | some v => .ok (.d v) s | none => .stuck
      | none => .stuck
  | _ => .stuck
theorem atI_map {α β : Type} (f : α → β) {xs : List α} {i : Int} {x : α} (h : atI xs i = some x) : atI (xs.map f) i = some (f x) := by
  unfold atI at h ⊢
  rw [List.length_map]
  cases k : ixN xs.length i with
  | none => rw [k] at h; cases h
  | some j =>
    rw [k] at h
    have h' : xs[j]? = some x := h
    show (xs.map f)[j]? = some (f x)
    rw [List.getElem?_map, h']
    rfl
theorem ix_ok : Op2 T W (rIx T.K) ixX := by
  intro st w x y u v s H Q hx hy r p
  unfold ixX at p
  split at p
  · rename_i i
    cases X_int hy
    split at p
    · rename_i xs
      split at p
      · rename_i d hd
        obtain ⟨a, vs, e1, e2, e3⟩ := viewT_ok (xs := xs) r hx rfl
        obtain ⟨z, hz, rz⟩ := e3.atI hd
        exact .inr (.inl ⟨a, vs, i, z, e1, rfl, e2, hz, postE_ok p rz r⟩)
      · exact p.elim
    · rename_i z
      cases X_str hx
      split at p
      · rename_i hl
        split at p
        · rename_i c hc
          exact .inr (.inr ⟨z, i, c, rfl, rfl, hl, hc, postE_ok p rX_str r⟩)
        · exact p.elim
      · exact p.elim
    · rename_i ns
      split at p
      · rename_i n hn
        have hx' : R T w.G (.scr ns) u := hx
        unfold R at hx'
        obtain ⟨a, e1, e2⟩ := hx'
        exact .inl ⟨a, _, i, _, e1, rfl, r.g.seq e2, atI_map V.int hn, okI_q p r⟩
      · exact p.elim
    · split at p
      · rename_i xs hv
        split at p
        · rename_i d hd
          obtain ⟨a, vs, e1, e2, e3⟩ := viewL_ok r hx hv
          obtain ⟨z, hz, rz⟩ := e3.atI hd
          exact .inl ⟨a, vs, i, z, e1, rfl, .of e2, hz, postE_ok p rz r⟩
        · exact p.elim
      · exact p.elim
  · exact p.elim
theorem pf_ix {a b : Expr} {f g : FE} {pos : Pos} (hK : X.K = T.K) (ha : PF T X W a f) (hb : PF T X W b g) (hs : PlainIx b := by exact fun _ _ => rfl) : PF T X W (.Subscript a b pos) (op2F ixX f g) :=
  PE.imp (pe_ix ix_seq ha hb hs) fun _ _ _ k => by rw [hK]; exact rd_op2 ix_ok k

/-! ### a[lo:hi] -/
def cutD {α : Type} (xs : List α) (lo hi : Option Int) : List α := (xs.drop (HT.sIx xs.length 0 lo)).take (HT.sIx xs.length xs.length hi - HT.sIx xs.length 0 lo)
def prt : Xv → Option (Option Int)
  | .d .non => some none
  | .d (.int i) => some (some i)
  | _ => none
def slX (m : Bool) (x l h : Xv) (s : Sto) : Res := match prt l, prt h with
  | some lo, some hi => match x with
    | .d (.tup xs) => .ok (.d (.tup (cutD xs lo hi))) s
    | .d (.str z) => if z.length ≤ sizeLine then .ok (.d (.str (cutS z lo hi))) s else .stuck
    | .d (.scr ns) => mkL m ((cutD ns lo hi).map .int) s
    | x => match viewL x s with | some xs => mkL m (cutD xs lo hi) s | none => .stuck
  | _, _ => .stuck
def slF (m : Bool) (f l h : FE) : FE := fun ρ s => (f ρ s).bind fun x s1 => (l ρ s1).bind fun a s2 => if (prt a).isSome = true then (h ρ s2).bind fun b s3 => slX m x a b s3 else .stuck
/-- a slice's part -/
abbrev PFO (T : Tx) (X : Cx) (W : WX) (e : Option Expr) (f : FE) : Prop := PO X e fun st H Q => rdE T W f st H fun u H1 => (u = .non ∧ Q none H1) ∨ ∃ i, u = .int i ∧ Q (some i) H1
theorem PO.imp {e : Option Expr} {t t' : TO} (h : PO X e t) (k : ∀ st H Q, t' st H Q → t st H Q) : PO X e t' := ⟨fun pins s σ H Q I q => h.run pins s σ H Q I (k _ _ _ q)⟩
theorem pfo_none : PFO T X W none (litF .non) := PO.imp po_none fun st H Q ⟨w, ρ, s, e, q, p⟩ => by
  rcases postE_ok p rX_non q with ⟨_, h⟩ | ⟨i, h, _⟩
  · exact h
  · cases h
/-- what gives an int -/
def intF (f : FE) : FE := fun ρ s => (f ρ s).bind fun x s1 => match x with | .d (.int i) => okI i s1 | _ => .stuck
theorem pfo_some {e : Expr} {f : FE} (h : PF T X W e f) : PFO T X W (some e) (intF f) := PO.imp (po_some h) fun st H Q ⟨w, ρ, s, e, q, p⟩ => rdE_mono (postE_bind e q p) fun u H1 ⟨w1, x, s1, l1, e1, x1, r1, p1⟩ => by
  split at p1
  · cases X_int x1
    rcases okI_q p1 r1 with ⟨h, _⟩ | ⟨i, h, k⟩
    · cases h
    · cases h
      exact ⟨_, rfl, k⟩
  · exact p1.elim
theorem Rs.cut {G : Hp} {xs : List D} {vs : List V} (h : Rs T G xs vs) (lo hi : Option Int) : Rs T G (cutD xs lo hi) (cutV vs lo hi) := by
  unfold cutD cutV
  rw [← h.length]
  exact (h.drop _).take _
theorem cut_whole {xs : List D} {lo hi : Option Int} (h : HT.sIx xs.length 0 lo = 0 ∧ HT.sIx xs.length xs.length hi = xs.length) : cutD xs lo hi = xs := by
  unfold cutD
  rw [h.1, h.2]
  simp
theorem cut_ints (ns : List Int) (lo hi : Option Int) : cutV (ns.map V.int) lo hi = (cutD ns lo hi).map V.int := by
  unfold cutD cutV
  rw [List.length_map, List.map_take, List.map_drop]
theorem rs_ints {G : Hp} : ∀ ns : List Int, Rs T G (ns.map D.int) (ns.map V.int)
  | [] => by unfold Rs; rfl
  | n :: ns => .cons (by unfold R; rfl) (rs_ints ns)
theorem prt_ok {w : Wd} {x : Xv} {u : V} {o : Option Int} {Q : Option Int → Hp → Prop} {H : Hp} (e : RX T w x u) (h : prt x = some o) (q : Q o H) : (u = .non ∧ Q none H) ∨ ∃ i, u = .int i ∧ Q (some i) H := by
  unfold prt at h
  split at h
  · cases h
    exact .inl ⟨X_non e, q⟩
  · cases h
    exact .inr ⟨_, X_int e, q⟩
  · cases h
def rSlAll (K : PySem.W.Frag) : V → Option Int → Option Int → Hp → VK → Prop := fun x lo hi H Q => rSlA K x lo hi H Q ∨ rSlL K x lo hi H Q ∨ rSlS x lo hi H Q
theorem sl_ok {st : L2.St} {w : Wd} {m : Bool} {x l h : Xv} {u vl vh : V} {s : Sto} {H : Hp} {Q : VK} (hx : RX T w x u) (hl : RX T w l vl) (hh : RX T w h vh) (r : RS T w s H) (p : PostE T W st w (slX m x l h s) Q) : ∃ lo hi, prt l = some lo ∧ prt h = some hi ∧ rSlAll T.K u lo hi H Q := by
  unfold slX at p
  split at p
  · rename_i lo hi e1 e2
    refine ⟨lo, hi, e1, e2, ?_⟩
    split at p
    · rename_i xs
      obtain ⟨a, vs, f1, f2, f3⟩ := viewT_ok (xs := xs) r hx rfl
      subst f1
      refine .inl ⟨a, vs, rfl, f2, fun z => ?_, fun z q hq => mkT_ok p r (f3.cut lo hi) q hq⟩
      rw [← f3.length] at z
      rw [cut_whole z] at p
      exact postE_ok p hx r
    · rename_i z
      cases X_str hx
      split at p
      · rename_i hz
        exact .inr (.inr ⟨z, rfl, hz, postE_ok p rX_str r⟩)
      · exact p.elim
    · rename_i ns
      have hx' : R T w.G (.scr ns) u := hx
      unfold R at hx'
      obtain ⟨a, e3, e4⟩ := hx'
      subst e3
      refine .inr (.inl ⟨a, _, rfl, r.g.seq e4, fun q hq => ?_⟩)
      rw [cut_ints]
      exact mkL_ok p r (rs_ints _) q hq
    · split at p
      · rename_i xs hv
        obtain ⟨a, vs, f1, f2, f3⟩ := viewL_ok r hx hv
        subst f1
        exact .inr (.inl ⟨a, vs, rfl, .of f2, fun q hq => mkL_ok p r (f3.cut lo hi) q hq⟩)
      · exact p.elim
  · exact p.elim
theorem pf_slice {e : Expr} {lo hi : Option Expr} {f l h : FE} {pos p2 : Pos} (m : Bool) (hK : X.K = T.K) (he : PF T X W e f) (hl : PFO T X W lo l) (hh : PFO T X W hi h) : PF T X W (.Subscript e (.Slice lo hi none p2) pos) (slF m f l h) :=
  PE.imp (pe_slice (r := rSlAll X.K) (sl_tupA.or (sl_list.or sl_str)) he hl hh) fun st H Q ⟨w, ρ, s, e, q, p⟩ => rdE_mono (postE_bind e q p) fun u H1 ⟨w1, x, s1, l1, e1, x1, r1, p1⟩ => by
    refine rdE_mono (postE_bind e1 r1 p1) fun v2 H2 ⟨w2, y, s2, l2, e2, x2, r2, p2⟩ => ?_
    split at p2
    · rename_i hy
      obtain ⟨lo, hlo⟩ := Option.isSome_iff_exists.mp hy
      have fin : rdE T W h st H2 fun u1 H3 => (u1 = V.non ∧ rSlAll X.K u lo none H3 Q) ∨ ∃ i, u1 = V.int i ∧ rSlAll X.K u lo (some i) H3 Q := rdE_mono (postE_bind e2 r2 p2) fun v3 H3 ⟨w3, z, s3, l3, e3, x3, r3, p3⟩ => by
        obtain ⟨lo', hi, q1, q2, q3⟩ := sl_ok ((x1.mono l2).mono l3) (x2.mono l3) x3 r3 p3
        rw [hlo] at q1
        cases q1
        exact prt_ok (Q := fun o H3 => rSlAll X.K u lo o H3 Q) x3 q2 (by rw [hK]; exact q3)
      exact prt_ok (Q := fun o H3 => rdE T W h st H3 fun u1 H4 => (u1 = V.non ∧ rSlAll X.K u o none H4 Q) ∨ ∃ i, u1 = V.int i ∧ rSlAll X.K u o (some i) H4 Q) x2 hlo fin
    · exact p2.elim
end
end FL

set_option Elab.async false
set_option linter.all false
set_option maxRecDepth 100000
set_option maxHeartbeats 4000000
namespace FL
open PySem PySem.Spec PyProof.Rows L2
section
variable {T : Tx} {X : Cx} {W : WX}
/-! ### built-in functions -/
abbrev RN := List V → Hp → VK → Prop
def OpN (T : Tx) (W : WX) (r : RN) (o : List Xv → Sto → Res) : Prop := ∀ (st : L2.St) (w : Wd) (xs : List Xv) (vs : List V) (s : Sto) (H : Hp) (Q : VK), RXs T w xs vs → RS T w s H → PostE T W st w (o xs s) Q → r vs H Q
def callBF (o : List Xv → Sto → Res) (g : FA) : FE := fun ρ s => (g ρ s).bind o
theorem rd_callB {r : RN} {o : List Xv → Sto → Res} {g : FA} (h : OpN T W r o) {st : L2.St} {H : Hp} {Q : VK} (k : rdE T W (callBF o g) st H Q) : tCB r (rdA T W g) st H Q := by
  obtain ⟨w, ρ, s, e, q, p⟩ := k
  exact rdA_mono (postE_bindL e q p) fun us H1 ⟨w1, xs, s1, l1, e1, x1, r1, p1⟩ => h st w1 xs us s1 H1 Q x1 r1 p1
theorem pf_callB {x : Str} {p pos : Pos} {e : Expr} {es : List Expr} {id : String} {r : RN} {o : List Xv → Sto → Res} {g : FA} (hc : CallR X (.builtin id) r) (h : OpN T W r o) (hm : X.mg x = none) (hv : bootBuiltins x = some (.builtin id)) (ha : PFA T X W (e :: es) g) (hg : Gl X x := by rfl)
    (hn : x ≠ "__name__" := by decide) (hdb : (x == ("__debug__" : Str)) = false := by decide) (he : starEach (e :: es) X.env = (false, eval e X.env) :: starEach es X.env := by rfl) (hpl : (backTo pos (starEach es X.env)).any (·.1) = false := by rfl) :
    PF T X W (.Call (.Name x p) (e :: es) [] pos) (callBF o g) := PE.imp (pe_callB hc hg hm hv ha hn hdb he hpl) fun _ _ _ => rd_callB h
theorem pf_callTy {x : Str} {p pos : Pos} {e : Expr} {es : List Expr} {id : String} {r : RN} {o : List Xv → Sto → Res} {g : FA} (hc : CallR X (.type id) r) (h : OpN T W r o) (hm : X.mg x = none) (hv : bootBuiltins x = some (.type id)) (ha : PFA T X W (e :: es) g) (hg : Gl X x := by rfl)
    (hn : x ≠ "__name__" := by decide) (hdb : (x == ("__debug__" : Str)) = false := by decide) (he : starEach (e :: es) X.env = (false, eval e X.env) :: starEach es X.env := by rfl) (hpl : (backTo pos (starEach es X.env)).any (·.1) = false := by rfl) :
    PF T X W (.Call (.Name x p) (e :: es) [] pos) (callBF o g) := PE.imp (pe_callTy hc hg hm hv ha hn hdb he hpl) fun _ _ _ => rd_callB h
theorem rxs1 {w : Wd} {x : Xv} {vs : List V} (h : RXs T w [x] vs) : ∃ v, vs = [v] ∧ RX T w x v := by
  obtain ⟨v, r, e1, e2, e3⟩ := h
  have e3' : r = [] := e3
  subst e3'
  exact ⟨v, e1, e2⟩
theorem rxs2 {w : Wd} {x y : Xv} {vs : List V} (h : RXs T w [x, y] vs) : ∃ v u, vs = [v, u] ∧ RX T w x v ∧ RX T w y u := by
  obtain ⟨v, r, e1, e2, e3⟩ := h
  obtain ⟨u, e4, e5⟩ := rxs1 e3
  subst e4
  exact ⟨v, u, e1, e2, e5⟩
def lenX (xs : List Xv) (s : Sto) : Res := match xs with
  | [.d (.tup a)] => okI a.length s
  | [.d (.str z)] => if z.length ≤ sizeLine then okI z.length s else .stuck
  | [.d (.scr a)] => okI a.length s
  | [x] => match viewL x s with | some a => okI a.length s | none => .stuck
  | _ => .stuck
theorem len_ok : OpN T W (fun xs H Q => ∃ x n, xs = [x] ∧ LenV T.K x H n ∧ Q (.int n) H) lenX := by
  intro st w xs vs s H Q hx r p
  unfold lenX at p
  split at p
  · rename_i a
    obtain ⟨v, rfl, e⟩ := rxs1 hx
    obtain ⟨ad, us, e1, e2, e3⟩ := viewT_ok (xs := a) r e rfl
    subst e1
    exact ⟨_, _, rfl, .inr ⟨us, e2, e3.length⟩, okI_q p r⟩
  · obtain ⟨v, rfl, e⟩ := rxs1 hx
    cases X_str e
    split at p
    · exact ⟨_, _, rfl, ⟨by assumption, rfl⟩, okI_q p r⟩
    · exact p.elim
  · rename_i a
    obtain ⟨v, rfl, e⟩ := rxs1 hx
    have e' : R T w.G (.scr a) v := e
    unfold R at e'
    obtain ⟨ad, e1, e2⟩ := e'
    subst e1
    exact ⟨_, _, rfl, .inl ⟨_, r.g.seq e2, by rw [List.length_map]⟩, okI_q p r⟩
  · split at p
    · rename_i a hv
      obtain ⟨v, rfl, e⟩ := rxs1 hx
      obtain ⟨ad, us, e1, e2, e3⟩ := viewL_ok r e hv
      subst e1
      exact ⟨_, _, rfl, .inl ⟨us, .of e2, e3.length⟩, okI_q p r⟩
    · exact p.elim
  · exact p.elim
/-- int(n), int(b) -/
def intX (xs : List Xv) (s : Sto) : Res := match xs with
  | [.d (.int i)] => okI i s
  | [.d (.bl b)] => okI (if b then 1 else 0) s
  | _ => .stuck
theorem int_ok : OpN T W (fun xs H Q => (∃ i, xs = [.int i] ∧ Q (.int i) H) ∨ ∃ k, xs = [.bl k] ∧ Q (.int (if k then 1 else 0)) H) intX := by
  intro st w xs vs s H Q hx r p
  unfold intX at p
  split at p
  · obtain ⟨v, rfl, e⟩ := rxs1 hx
    cases X_int e
    exact .inl ⟨_, rfl, okI_q p r⟩
  · obtain ⟨v, rfl, e⟩ := rxs1 hx
    cases X_bl e
    exact .inr ⟨_, rfl, okI_q p r⟩
  · exact p.elim
def tupleX (xs : List Xv) (s : Sto) : Res := match xs with
  | [.d (.tup a)] => .ok (.d (.tup a)) s
  | [x] => match viewL x s with | some a => .ok (.d (.tup a)) s | none => .stuck
  | _ => .stuck
theorem tuple_ok : OpN T W (fun xs H Q => ∃ p ys, xs = [.ref p] ∧ ((SqL T.K H p ys ∧ ∀ l, H l = none → Q (.ref l) (upd H l (.tup ys))) ∨ (SqT T.K H p ys ∧ Q (.ref p) H))) tupleX := by
  intro st w xs vs s H Q hx r p
  unfold tupleX at p
  split at p
  · rename_i a
    obtain ⟨v, rfl, e⟩ := rxs1 hx
    obtain ⟨ad, us, e1, e2, e3⟩ := viewT_ok (xs := a) r e rfl
    subst e1
    exact ⟨_, _, rfl, .inr ⟨e2, postE_ok p e r⟩⟩
  · split at p
    · rename_i a hv
      obtain ⟨v, rfl, e⟩ := rxs1 hx
      obtain ⟨ad, us, e1, e2, e3⟩ := viewL_ok r e hv
      subst e1
      exact ⟨_, _, rfl, .inl ⟨.of e2, fun q hq => mkT_ok p r e3 q hq⟩⟩
    · exact p.elim
  · exact p.elim
def listX (m : Bool) (xs : List Xv) (s : Sto) : Res := match xs with
  | [.d (.tup a)] => mkL m a s
  | [.d (.scr a)] => mkL m (a.map .int) s
  | [x] => match viewL x s with | some a => mkL m a s | none => .stuck
  | _ => .stuck
theorem list_ok {m : Bool} : OpN T W (fun xs H Q => ∃ p ys, xs = [.ref p] ∧ (SqL T.K H p ys ∨ SqT T.K H p ys) ∧ ∀ l, H l = none → Q (.ref l) (upd H l (.lst ys))) (listX m) := by
  intro st w xs vs s H Q hx r p
  unfold listX at p
  split at p
  · rename_i a
    obtain ⟨v, rfl, e⟩ := rxs1 hx
    obtain ⟨ad, us, e1, e2, e3⟩ := viewT_ok (xs := a) r e rfl
    subst e1
    exact ⟨_, _, rfl, .inr e2, fun q hq => mkL_ok p r e3 q hq⟩
  · rename_i a
    obtain ⟨v, rfl, e⟩ := rxs1 hx
    have e' : R T w.G (.scr a) v := e
    unfold R at e'
    obtain ⟨ad, e1, e2⟩ := e'
    subst e1
    exact ⟨_, _, rfl, .inl (r.g.seq e2), fun q hq => mkL_ok p r (rs_ints a) q hq⟩
  · split at p
    · rename_i a hv
      obtain ⟨v, rfl, e⟩ := rxs1 hx
      obtain ⟨ad, us, e1, e2, e3⟩ := viewL_ok r e hv
      subst e1
      exact ⟨_, _, rfl, .inl (.of e2), fun q hq => mkL_ok p r e3 q hq⟩
    · exact p.elim
  · exact p.elim
/-- all are numbers -/
def allInts : List D → Option (List Int)
  | [] => some []
  | .int i :: xs => match allInts xs with | some r => some (i :: r) | none => none
  | _ => none
theorem allInts_ok {G : Hp} : ∀ {xs : List D} {ns : List Int} {vs : List V}, allInts xs = some ns → Rs T G xs vs → vs = ns.map V.int
  | [], ns, vs, h, e => by
    cases h
    unfold Rs at e
    exact e
  | .int i :: xs, ns, vs, h, e => by
    unfold Rs at e
    obtain ⟨v, r, e1, e2, e3⟩ := e
    unfold allInts at h
    split at h
    · rename_i r' q
      cases h
      rw [e1, R_int e2, allInts_ok q e3]
      rfl
    · cases h
  | .non :: _, _, _, h, _ => by cases h
  | .bl _ :: _, _, _, h, _ => by cases h
  | .str _ :: _, _, _, h, _ => by cases h
  | .ty _ :: _, _, _, h, _ => by cases h
  | .adr _ :: _, _, _, h, _ => by cases h
  | .tup _ :: _, _, _, h, _ => by cases h
  | .lst _ :: _, _, _, h, _ => by cases h
  | .scr _ :: _, _, _, h, _ => by cases h
  | .cls _ :: _, _, _, h, _ => by cases h
  | .obj _ _ _ :: _, _, _, h, _ => by cases h
  | .exc _ _ _ :: _, _, _, h, _ => by cases h
def sumX (xs : List Xv) (s : Sto) : Res := match xs with
  | [.d (.scr a)] => okI a.sum s
  | [x] => match viewL x s with
    | some a => match allInts a with | some ns => okI ns.sum s | none => .stuck
    | none => .stuck
  | _ => .stuck
theorem sum_ok : OpN T W (rSum T.K) sumX := by
  intro st w xs vs s H Q hx r p
  unfold sumX at p
  split at p
  · rename_i a
    obtain ⟨v, rfl, e⟩ := rxs1 hx
    have e' : R T w.G (.scr a) v := e
    unfold R at e'
    obtain ⟨ad, e1, e2⟩ := e'
    subst e1
    exact ⟨_, _, rfl, r.g.seq e2, okI_q p r⟩
  · split at p
    · rename_i a hv
      split at p
      · rename_i ns hi
        obtain ⟨v, rfl, e⟩ := rxs1 hx
        obtain ⟨ad, us, e1, e2, e3⟩ := viewL_ok r e hv
        subst e1
        exact ⟨_, ns, rfl, .of (by rw [e2, allInts_ok hi e3]), okI_q p r⟩
      · exact p.elim
    · exact p.elim
  · exact p.elim
def maxX (xs : List Xv) (s : Sto) : Res := match xs with
  | [.d (.int i), .d (.int j)] => okI (if j > i then j else i) s
  | _ => .stuck
def minX (xs : List Xv) (s : Sto) : Res := match xs with
  | [.d (.int i), .d (.int j)] => okI (if j < i then j else i) s
  | _ => .stuck
theorem max_ok : OpN T W (fun xs H Q => ∃ i j, xs = [.int i, .int j] ∧ Q (.int (if j > i then j else i)) H) maxX := by
  intro st w xs vs s H Q hx r p
  unfold maxX at p
  split at p
  · obtain ⟨v, u, rfl, e, f⟩ := rxs2 hx
    cases X_int e
    cases X_int f
    exact ⟨_, _, rfl, okI_q p r⟩
  · exact p.elim
theorem min_ok : OpN T W (fun xs H Q => ∃ i j, xs = [.int i, .int j] ∧ Q (.int (if j < i then j else i)) H) minX := by
  intro st w xs vs s H Q hx r p
  unfold minX at p
  split at p
  · obtain ⟨v, u, rfl, e, f⟩ := rxs2 hx
    cases X_int e
    cases X_int f
    exact ⟨_, _, rfl, okI_q p r⟩
  · exact p.elim
/-- repr of plain data -/
def reprX (xs : List Xv) (s : Sto) : Res := match xs with
  | [x] => match eqView x s with
    | some a => if (flatS 32 a && PyData.showable (toP a) && decide ((toP a).shown.length ≤ sizeLine)) = true then .ok (.d (.str (toP a).shown)) s else .stuck
    | none => .stuck
  | _ => .stuck
/-! x.bit_length() -/
def bitsF (f : FE) : FE := fun ρ s => (f ρ s).bind fun x s1 => match x with | .d (.int i) => okI (Builtin.Int.intBits i : Nat) s1 | _ => .stuck
theorem pf_bits {o : Expr} {f : FE} {apos pos : Pos} (ho : PF T X W o f) (hbase : attributeBase o "bit_length" X.env (eval o X.env) = eval o X.env := by rfl) (hline : (apos.endLine == pos.line) = true := by rfl) :
    PF T X W (.Call (.Attribute o "bit_length" apos) [] [] pos) (bitsF f) := PE.imp (pe_bits ho hbase hline) fun st H Q ⟨w, ρ, s, e, q, p⟩ => rdE_mono (postE_bind e q p) fun u H1 ⟨w1, x, s1, l1, e1, x1, r1, p1⟩ => by
  split at p1
  · cases X_int x1
    exact ⟨_, rfl, okI_q p1 r1⟩
  · exact p1.elim
end
end FL

set_option Elab.async false
set_option linter.all false
set_option maxRecDepth 100000
set_option maxHeartbeats 4000000
namespace FL
open PySem PySem.Spec PyProof.Rows L2
/-! ### isinstance -/
def tyn : Xv → Sto → Option String
  | .d .non, _ => some "NoneType"
  | .d (.bl _), _ => some "bool"
  | .d (.int _), _ => some "int"
  | .d (.str _), _ => some "str"
  | .d (.tup _), _ => some "tuple"
  | x, s => match viewL x s with | some _ => some "list" | none => none
def knownT : List String := ["NoneType", "bool", "int", "str", "tuple", "list"]
def isiB (a b : String) : Bool := a == b || (a == "bool" && b == "int")
theorem isiB_ok : ∀ a ∈ knownT, ∀ b ∈ knownT, kitB a b = some (isiB a b) := by decide +kernel
structure OwnC (K : PySem.W.Frag) (C : Addr) : Prop where
  cl : Cls K C
  ha : PySem.W.findIn K (.ref C) "__class__" = some (some (.builtin "object.__class__"))
  hn : PySem.W.specialIn K (.builtin "object.__class__") "__get__" = some (some (.builtin "getset_descriptor.__get__"))
  ht : PySem.W.takesIn K (.builtin "object.__class__") = some true
  hm : PySem.W.mroIn K C (.type "object") = some true
/-- what is known of the classes -/
structure TxOk (T : Tx) (own : Nat → Bool) : Prop where
  bi : ∀ t ∈ knownT, ∀ c, c < T.n → PySem.W.kitOne T.K (.type t) (.ref (T.ct c)) = some false
  ob : ∀ c d, c < T.n → d < T.n → PySem.W.kitOne T.K (.ref (T.ct c)) (.ref (T.ct d)) = some (T.sub c d)
  ot : ∀ c, c < T.n → own c = true → ∀ t ∈ knownT, PySem.W.kitOne T.K (.ref (T.ct c)) (.type t) = some false
  ow : ∀ c, c < T.n → own c = true → OwnC T.K (T.ct c)
section
variable {T : Tx} {X : Cx} {W : WX} {own : Nat → Bool}
def isiX (n : Nat) (sub : Nat → Nat → Bool) (own : Nat → Bool) (xs : List Xv) (s : Sto) : Res := match xs with
  | [.d (.obj c _ _), .d (.cls k)] => if c < n ∧ k < n ∧ own c = true then okB (sub c k) s else .stuck
  | [.d (.obj c _ _), .d (.ty m)] => if c < n ∧ knownT.contains m = true ∧ own c = true then okB false s else .stuck
  | [x, .d (.ty m)] => match tyn x s with
    | some t => if knownT.contains m = true then okB (isiB t m) s else .stuck
    | none => .stuck
  | [x, .d (.cls k)] => match tyn x s with
    | some _ => if k < n then okB false s else .stuck
    | none => .stuck
  | _ => .stuck
theorem tyn_mem {x : Xv} {s : Sto} {t : String} (h : tyn x s = some t) : t ∈ knownT := by
  unfold tyn at h
  split at h
  iterate 5
    · cases h
      decide
  · split at h
    · cases h
      decide
    · cases h
theorem tyn_ok {w : Wd} {s : Sto} {H : Hp} {x : Xv} {v : V} {t : String} (r : RS T w s H) (e : RX T w x v) (h : tyn x s = some t) : TyX T.K H v (.type t) := by
  unfold tyn at h
  split at h
  · cases h
    cases X_non e
    exact .base .non
  · cases h
    cases X_bl e
    exact .base (.bl _)
  · cases h
    cases X_int e
    exact .base (.int _)
  · cases h
    cases X_str e
    exact .base (.str _)
  · rename_i s' xs
    cases h
    have e' : R T w.G (.tup xs) v := e
    unfold R at e'
    obtain ⟨a, vs, e1, e2, e3⟩ := e'
    subst e1
    rcases e2 with (e2 | ⟨o, e2⟩) | ⟨o, its, n, k1, k2, _⟩
    · exact .base (.tup (r.g _ _ e2))
    · exact .fTuple (r.g _ _ e2)
    · exact .kTuple k1 k2
  · split at h
    · rename_i xs hv
      cases h
      obtain ⟨a, us, e1, e2, e3⟩ := viewL_ok r e hv
      subst e1
      exact .base (.lst e2)
    · cases h
theorem cls_v {w : Wd} {k : Nat} {v : V} (h : RX T w (.d (.cls k)) v) : v = .ref (T.ct k) := by
  have h' : R T w.G (.cls k) v := h
  unfold R at h'
  exact h'
theorem ty_v {w : Wd} {k : String} {v : V} (h : RX T w (.d (.ty k)) v) : v = .ty k := by
  have h' : R T w.G (.ty k) v := h
  unfold R at h'
  exact h'
theorem obj_ty {w : Wd} {s : Sto} {H : Hp} {c : Nat} {ns : List Str} {xs : List D} {v : V} (r : RS T w s H) (O : OwnC T.K (T.ct c)) (h : RX T w (.d (.obj c ns xs)) v) : TyX T.K H v (.ref (T.ct c)) := by
  have h' : R T w.G (.obj c ns xs) v := h
  unfold R at h'
  obtain ⟨a, dx, fs, e1, e2, _⟩ := h'
  subst e1
  exact .base (.ins (r.g _ _ e2) O.cl O.ha O.hn O.ht O.hm)
theorem isi_ok (K : TxOk T own) : OpN T W (rIsi T.K) (isiX T.n T.sub own) := by
  intro st w xs vs s H Q hx r p
  unfold isiX at p
  split at p
  · obtain ⟨v, u, rfl, e, f⟩ := rxs2 hx
    split at p
    · rename_i h
      cases cls_v f
      exact ⟨_, _, _, _, _, rfl, .own _, obj_ty r (K.ow _ h.1 h.2.2) e, K.ob _ _ h.1 h.2.1, okB_q p r⟩
    · exact p.elim
  · obtain ⟨v, u, rfl, e, f⟩ := rxs2 hx
    split at p
    · rename_i h
      cases ty_v f
      exact ⟨_, _, _, _, _, rfl, .ty _, obj_ty r (K.ow _ h.1 h.2.2) e, K.ot _ h.1 h.2.2 _ (List.contains_iff_mem.mp h.2.1), okB_q p r⟩
    · exact p.elim
  · obtain ⟨v, u, rfl, e, f⟩ := rxs2 hx
    split at p
    · rename_i t ht
      split at p
      · rename_i h
        cases ty_v f
        exact ⟨_, _, _, _, _, rfl, .ty _, tyn_ok r e ht, kit_ty (isiB_ok _ (tyn_mem ht) _ (List.contains_iff_mem.mp h)), okB_q p r⟩
      · exact p.elim
    · exact p.elim
  · obtain ⟨v, u, rfl, e, f⟩ := rxs2 hx
    split at p
    · rename_i t ht
      split at p
      · rename_i h
        cases cls_v f
        exact ⟨_, _, _, _, _, rfl, .own _, tyn_ok r e ht, K.bi _ (tyn_mem ht) _ h, okB_q p r⟩
      · exact p.elim
    · exact p.elim
  · exact p.elim

/-! ### defs -/
/-- room, and no repr is under way -/
structure RoomG (k : Nat) (A : Around) : Prop where
  room : Room k A
  gd : A.guards = some []
theorem RoomG.mono {j k : Nat} {A : Around} (r : RoomG k A) (h : j ≤ k) : RoomG j A := ⟨r.room.mono h, r.gd⟩
theorem RoomG.deeper {k : Nat} {A : Around} (r : RoomG (k + 1) A) (env : Env) : RoomG k (A.deeper env) := ⟨r.room.deeper env, r.gd⟩
/-- a def keeps its promise, where there is such room -/
structure FnG (P : Program) (w : World) (K : PySem.W.Frag) (mg : Str → Option Value) (base : Heap) (k : Nat) (f : Addr) (fd : FuncData) (ps : List Str) (sp : Sp) : Prop where
  len : ∀ vs H Q E, sp vs H Q E → vs.length = ps.length
  run : ∀ (A : Around) (outer : List Env) (s : Shared) (H : Hp) (args : Args) (us : List Value) (vs : List V) (Q : VK) (E : XK), RoomG k A → Env0 P w K mg base A outer s H →
    BindsTo s fd args (ps.zip us) → Vals vs us → sp vs H Q E → codeAny (model P w) A (.call (.ref f) args) (CR (L2.CX P w) outer P w H s Q E) s
theorem FnG.mono {P : Program} {w : World} {K : PySem.W.Frag} {mg : Str → Option Value} {base : Heap} {j k : Nat} {f : Addr} {fd : FuncData} {ps : List Str} {sp : Sp} (F : FnG P w K mg base j f fd ps sp) (h : j ≤ k) : FnG P w K mg base k f fd ps sp :=
  ⟨F.len, fun A outer s H args us vs Q E hr => F.run A outer s H args us vs Q E (hr.mono h)⟩
theorem FnG.imp {P : Program} {w : World} {K : PySem.W.Frag} {mg : Str → Option Value} {base : Heap} {k : Nat} {f : Addr} {fd : FuncData} {ps : List Str} {sp sp' : Sp} (F : FnG P w K mg base k f fd ps sp) (h : ∀ vs H Q E, sp' vs H Q E → sp vs H Q E) : FnG P w K mg base k f fd ps sp' :=
  ⟨fun vs H Q E q => F.len vs H Q E (h _ _ _ _ q), fun A outer s H args us vs Q E hr he hb hv hs => F.run A outer s H args us vs Q E hr he hb hv (h _ _ _ _ hs)⟩
/-- a def by its body -/
theorem fnG_of {P : Program} {w : World} {K : PySem.W.Frag} {mg : Str → Option Value} {base : Heap} {k : Nat} {f : Addr} {name qual : Str} {params : Arguments} {body : List Stmt} {scope : Scope} {dV kV doc pm cdv ct oc : Value} {an od : Option Addr} {osl : Array (Option Value)} {N ps : List Str} {sp : Sp}
    (lk : K.lookup f = some ⟨oc, od, .func (PySem.W.fnOf name qual params body scope dV kV doc pm an cdv ct), osl⟩) (hcd : PySem.W.codeIn K cdv qual = true) (S : FnScope N ps scope) (len : ∀ vs H Q E, sp vs H Q E → vs.length = ps.length)
    (hbody : ∀ (A : Around) (outer : List Env) (s : Shared) (H : Hp) (vs : List V) (Q : VK) (E : XK), RoomG k (A.deeper (envOfC qual scope s.heap.objs.size f cdv)) → sp vs H Q E →
      ∃ t, PSs (cxOf (L2.CX P w) P w K mg base N qual scope f cdv A outer s H E) body t ∧ t { nx := fun _ H' => Q .non H', rt := Q } (start N vs) H) :
    FnG P w K mg base (k + 1) f (PySem.W.fnOf name qual params body scope dV kV doc pm an cdv ct) ps sp := by
  refine ⟨len, fun A outer s H args us vs Q E hr e0 hb r hsp => ?_⟩
  have kin : K.In s.heap := e0.mod.kin.keeps fun b o e => (e0.bs b o e).1
  have nolim : s.heap.NoLimit := e0.mod.nolimit.keeps fun b o e => (e0.bs b o e).1
  have ck : ∀ y ∈ ps.zip us, scope.names.lookup y.1 = some .local ∨ (scope.names.lookup y.1 = some .cell ∧ ((cellsFrom (s.heap.objs.size + 1) scope.names []).lookup y.1).isSome = true) := by
    rintro ⟨n, v⟩ hy
    exact (S.par n (List.of_mem_zip hy).1).imp id fun q => ⟨q, PySem.W.cellsFrom_some _ _ _ (.inl q)⟩
  refine codeAny_call_function hr.room.depth (kin _ _ lk) rfl S.co S.gen rfl (PySem.W.codeRec_of kin hcd) (hb _ _ _ _ ?_)
  refine wpAny_newFunctionEnv_cells S.kind ck fun env he s1 x => ?_
  subst he
  refine ⟨nolim.keeps x.toInCall.keep, codeAny_func ?_⟩
  obtain ⟨t, ht, hq⟩ := hbody A outer s H vs Q E (hr.deeper _) hsp
  have I0 := inv_start (CX := L2.CX P w) (E := E) (P := P) (w := w) (cd := cdv) (f := f) (qual := qual) S hr.room.hd e0 (len _ _ _ _ hsp) r x
  refine wpAny_mono (ht.run [] s1 (start N vs) H _ I0 hq) (fun fl s' hs => ?_) fun e s' hs => hs
  cases fl with
  | next =>
    obtain ⟨σ', H', J, q⟩ := hs
    exact ⟨.non, H', J.os, J.bare, J.base, J.hok, rfl, q⟩
  | ret u =>
    obtain ⟨v, σ', H', J, rv, q⟩ := hs
    exact ⟨v, H', J.os, J.bare, J.base, J.hok, rv, q⟩
  | brk => exact hs.elim fun _ z => z.elim fun _ z => z.2.elim
  | cont => exact hs.elim fun _ z => z.elim fun _ z => z.2.elim
/-- a callee runs; what it raises is wished for at the caller's slots -/
theorem run_fnG {k : Nat} {f : Addr} {fd : FuncData} {ps : List Str} {sp : Sp} {dvs : List V} {ds : List Value} {E : XK} {pins : List (Addr × Obj)} {σ : L2.St} {H : Hp} {s : Shared} {Q : VK} {us : List Value} {vs : List V}
    (F : FnG X.prog X.w X.K X.mg X.base k f fd ps sp) (hr : RoomG k X.A) (hb : Binds X.K fd ps ds) (hd : Vals dvs ds) (hx : PassesAt (L2.CX X.prog X.w) X σ E) (I : Inv X pins σ H s) (r : Vals vs us) (h : sp (vs ++ dvs) H Q E) :
    wpAny (model X.prog X.w) X.A (call (.ref f) us) (EP X pins σ Q) X.xe s := by
  have ra : Vals (vs ++ dvs) (us ++ ds) := r.append hd
  have hl : (us ++ ds).length = ps.length := ra.length.symm.trans (F.len _ _ _ _ h)
  refine wpAny_call (codeAny_mono (F.run X.A X.stack s H ⟨us, []⟩ _ _ Q E hr I.env0 (hb s us I.kIn hl) ra h) fun res s' hq => ?_)
  cases res with
  | error e => exact hx pins H s e s' I hq
  | ok fl =>
    cases fl with
    | ret u => exact I.after hq
    | next => exact (show False from hq).elim
    | brk => exact (show False from hq).elim
    | cont => exact (show False from hq).elim
def tCallG (sp : Sp) (dvs : List V) (E : L2.St → XK) (t : TA) : TE := fun σ H Q => t σ H fun vs H1 => sp (vs ++ dvs) H1 Q (E σ)
theorem pe_callG {k : Nat} {f : Addr} {fd : FuncData} {ps : List Str} {sp : Sp} {dvs : List V} {ds : List Value} {E : L2.St → XK} {x : Str} {p pos : Pos} {e : Expr} {es : List Expr} {t : TA}
    (F : FnG X.prog X.w X.K X.mg X.base k f fd ps sp) (hr : RoomG k X.A) (hg : Gl X x) (hm : X.mg x = some (.ref f)) (hk : PySem.W.keepIn X.K (.ref f) = true) (hb : Binds X.K fd ps ds) (hd : Vals dvs ds) (hx : ∀ σ, PassesAt (L2.CX X.prog X.w) X σ (E σ))
    (ha : PA X (e :: es) t) (hdb : (x == ("__debug__" : Str)) = false := by decide) (he : starEach (e :: es) X.env = (false, eval e X.env) :: starEach es X.env := by rfl) (hpl : (backTo pos (starEach es X.env)).any (·.1) = false := by rfl) :
    PE X (.Call (.Name x p) (e :: es) [] pos) (tCallG sp dvs E t) := ⟨fun pins s σ H Q I h =>
  wpAny_Call_Name_kw (ld_glob I hg hm (PySem.W.callWith_K (h₀ := X.base) I.ok.mod.kin hk (thn (ha.run pos pins s σ H _ I h) fun us s1 ⟨vs, H1, I1, r, q⟩ => ⟨I1.kIn, run_fnG F hr hb hd (hx σ) I1 r q⟩) he hpl) hdb)⟩
theorem pe_callG0 {k : Nat} {f : Addr} {fd : FuncData} {ps : List Str} {sp : Sp} {dvs : List V} {ds : List Value} {E : L2.St → XK} {x : Str} {p pos : Pos}
    (F : FnG X.prog X.w X.K X.mg X.base k f fd ps sp) (hr : RoomG k X.A) (hg : Gl X x) (hm : X.mg x = some (.ref f)) (hk : PySem.W.keepIn X.K (.ref f) = true) (hb : Binds X.K fd ps ds) (hd : Vals dvs ds) (hx : ∀ σ, PassesAt (L2.CX X.prog X.w) X σ (E σ))
    (hdb : (x == ("__debug__" : Str)) = false := by decide) : PE X (.Call (.Name x p) [] [] pos) (tCallG sp dvs E tNil) := ⟨fun pins s σ H Q I h =>
  wpAny_Call_Name_kw (ld_glob I hg hm (PySem.W.callWith_K0 I.kIn hk (run_fnG (us := []) F hr hb hd (hx σ) I .nil h)) hdb)⟩
end
end FL

set_option Elab.async false
set_option linter.all false
set_option maxRecDepth 100000
set_option maxHeartbeats 4000000
namespace FL
open PySem PySem.Spec PyProof.Rows L2
/-- what a def computes: of values and the changing objects handed in -/
abbrev Fn := List Xv → Sto → Res
def PostC (T : Tx) (w : Wd) (r : Res) (Q : VK) (E : XK) : Prop := match r with
  | .ok v s => ∀ w' u H', Le w w' → RX T w' v u → RS T w' s H' → Q u H'
  | .exc e s => ∀ w' cls d H', Le w w' → RExc T w' e cls d → RS T w' s H' → E cls d H'
  | .stuck => False
/-- the promise: n values, F says the rest -/
def spF (T : Tx) (n : Nat) (F : Fn) : Sp := fun vs H Q E => ∃ w ds s, ds.length = n ∧ RXs T w ds vs ∧ RS T w s H ∧ PostC T w (F ds s) Q E
/-- a body as a function -/
def bodyF (n : Nat) (f : FS) : Fn := fun ds s => match f (ds.map some ++ List.replicate n none) s with
  | .nx _ s' => .ok (.d .non) s'
  | .rt v s' => .ok v s'
  | .exc e _ s' => .exc e s'
  | _ => .stuck
section
variable {T : Tx} {X : Cx} {W : WX}
theorem re_start {w : Wd} {ds : List Xv} {vs : List V} {N : List Str} {n : Nat} (h : RXs T w ds vs) (hn : n = N.length - vs.length) : RE T w (ds.map some ++ List.replicate n none) (L2.start N vs) := by
  have hl := h.length
  refine ⟨by unfold L2.start; simp [hl, hn], fun i v e => ?_⟩
  have hi : i < ds.length := by
    by_cases hi : i < ds.length
    · exact hi
    · rw [List.getElem?_append_right (by simpa using hi), List.getElem?_replicate] at e
      split at e <;> cases e
  rw [List.getElem?_append_left (by simpa using hi), List.getElem?_map] at e
  have key : ∀ (ds : List Xv) (vs : List V) (i : Nat) (v : Xv), RXs T w ds vs → ds[i]? = some v → ∃ u, vs[i]? = some u ∧ RX T w v u := by
    intro ds
    induction ds with
    | nil => intro vs i v _ h; simp at h
    | cons d ds ih =>
      rintro vs i v ⟨u, r, e1, e2, e3⟩ h
      subst e1
      cases i with
      | zero =>
        simp at h
        subst h
        exact ⟨u, rfl, e2⟩
      | succ i => exact ih r i v e3 (by simpa using h)
  cases q : ds[i]? with
  | none => rw [q] at e; cases e
  | some d =>
    rw [q] at e
    cases e
    obtain ⟨u, e1, e2⟩ := key ds vs i v h q
    refine ⟨u, ?_, e2⟩
    unfold L2.start
    rw [List.getElem?_append_left (by rw [List.length_map, ← hl]; exact hi), List.getElem?_map, e1]
    rfl
/-- THE RULE: a def by its body -/
theorem fn_mk {P : Program} {w : World} {K : PySem.W.Frag} {mg : Str → Option Value} {base : Heap} {k : Nat} {x qual : Str} {params : Arguments} {body : List Stmt} {scope : Scope} {dvs : List V} {kws : List (Str × V)} {f : Addr} {fd : FuncData} {N ps : List Str} {fs : FS}
    (F : FunD K x qual params body scope dvs kws f fd) (S : FnScope N ps scope)
    (h : ∀ (X : Cx) (W : WX), X.prog = P → X.w = w → X.K = K → X.mg = mg → X.base = base → X.calm = true → X.N = N → X.ex = [] → X.env.scope = scope → X.stack = X.env :: X.outer → X.env.frame = some X.env.locals → (∀ y, X.fn y = true) →
      RoomG k X.A → Takes X W → PassesOwn (model X.prog X.w) X.A X.env X.xe → PFSs T X W body fs) :
    FnG P w K mg base (k + 1) f fd ps (spF T ps.length (bodyF (N.length - ps.length) fs)) := by
  obtain ⟨oc, od, dV, kV, doc, pm, an, cdv, ct, osl, rfl, lk, hcd, _, _⟩ := F.ex
  refine fnG_of lk hcd S (fun vs H Q E ⟨w, ds, s, h1, h2, _⟩ => by rw [← h2.length]; exact h1) fun A outer s H vs Q E hr ⟨w0, ds, s0, h1, h2, h3, h4⟩ => ?_
  have hl := h2.length
  refine ⟨_, h (cxOf (L2.CX P w) P w K mg base N qual scope f cdv A outer s H E) (fun cls d _ H => E cls d H) rfl rfl rfl rfl rfl rfl rfl rfl rfl rfl rfl (fun _ => rfl) hr (takes_of rfl rfl rfl rfl) (passes_of rfl), ?_⟩
  refine ⟨w0, ds.map some ++ List.replicate (N.length - ps.length) none, s0, re_start h2 (by rw [← hl, h1]), h3, ?_⟩
  unfold bodyF at h4
  revert h4
  cases fs (ds.map some ++ List.replicate (N.length - ps.length) none) s0 with
  | nx r s' => exact fun p w' st H' l e1 e2 => p w' _ H' l rX_non e2
  | rt v s' => exact fun p w' u H' l e1 e2 => p w' u H' l e1 e2
  | exc e r s' => exact fun p w' cls d st H' l e1 _ e2 => p w' cls d H' l e1 e2
  | bk r s' => exact fun p => p.elim
  | ct r s' => exact fun p => p.elim
  | stuck => exact fun p => p.elim

/-! ### a call -/
/-- the changing objects among the values -/
def refsOf : List Xv → List Nat
  | [] => []
  | .d _ :: xs => refsOf xs
  | .ref i :: xs => i :: refsOf xs
/-- a new object goes on: as it is (m), or as plain data -/
def mkO (m : Bool) (o : O) (s : Sto) : Res := match m, o with
  | true, .dead => .stuck
  | true, o => .ok (.ref s.length) (s ++ [o])
  | false, .lst xs => .ok (.d (.lst xs)) s
  | false, .ins c ns vs => .ok (.d (.obj c ns vs)) s
  | false, .dead => .stuck
/-- plain values alone: the callee begins with no object -/
def run0 (m : Bool) (F : Fn) (xs : List Xv) (s : Sto) : Res := match F xs [] with
  | .ok (.d v) _ => .ok (.d v) s
  | .ok (.ref j) s2 => match s2[j]? with | some o => mkO m o s | none => .stuck
  | .exc e _ => .exc e s
  | .stuck => .stuck
def zero : List Xv → List Xv
  | [] => []
  | .d v :: xs => .d v :: zero xs
  | .ref _ :: xs => .ref 0 :: zero xs
def get0 : Sto → Option O
  | .dead :: _ => none
  | o :: _ => some o
  | [] => none
theorem get0_ok : ∀ {s : Sto} {o : O}, get0 s = some o → s[0]? = some o ∧ o ≠ .dead
  | .dead :: _, _, h => by cases h
  | .lst xs :: _, _, h => by cases h; exact ⟨rfl, fun z => nomatch z⟩
  | .ins _ _ _ :: _, _, h => by cases h; exact ⟨rfl, fun z => nomatch z⟩
  | [], _, h => by cases h
/-- one object is handed in -/
def run1 (m : Bool) (F : Fn) (xs : List Xv) (i : Nat) (s : Sto) : Res := match s[i]? with
  | some .dead => .stuck
  | none => .stuck
  | some o => match F (zero xs) [o] with
    | .ok (.d v) s2 => match get0 s2 with | some o2 => .ok (.d v) (s.set i o2) | none => .stuck
    | .ok (.ref j) s2 => match get0 s2 with
      | some o2 => if j = 0 then .ok (.ref i) (s.set i o2) else match s2[j]? with | some u => mkO m u (s.set i o2) | none => .stuck
      | none => .stuck
    | .exc e s2 => match get0 s2 with | some o2 => .exc e (s.set i o2) | none => .stuck
    | .stuck => .stuck
def allEq (i : Nat) : List Nat → Bool
  | [] => true
  | j :: r => j == i && allEq i r
def runC (m : Bool) (F : Fn) (xs : List Xv) (s : Sto) : Res := match refsOf xs with
  | [] => run0 m F xs s
  | i :: r => if allEq i r = true then run1 m F xs i s else .stuck
def callF (m : Bool) (F : Fn) (dv : List D) (g : FA) : FE := fun ρ s => (g ρ s).bind fun xs s1 => runC m F (xs ++ dv.map .d) s1
/-- what lives -/
def Lv (w : Wd) (s : Sto) (a : Addr) : Prop := ∃ (i : Nat) (o : O), s[i]? = some o ∧ o ≠ .dead ∧ w.io[i]? = some a
open Classical in
/-- all live objects but one are held -/
noncomputable def hold (w : Wd) (s : Sto) (H : Hp) (b : Option Addr) : Hp := fun a => if Lv w s a ∧ some a ≠ b then H a else w.Z a
theorem hold_lv {w : Wd} {s : Sto} {H : Hp} {b : Option Addr} {a : Addr} (h : Lv w s a) (hb : some a ≠ b) : hold w s H b a = H a := if_pos ⟨h, hb⟩
theorem hold_z {w : Wd} {s : Sto} {H : Hp} {b : Option Addr} {a : Addr} {o : HO} (r : RS T w s H) (h : w.Z a = some o) : hold w s H b a = some o := by
  unfold hold
  rw [if_neg, h]
  rintro ⟨⟨i, u, e1, e2, e3⟩, _⟩
  obtain ⟨_, _, _, _, z⟩ := r.live i u a e1 e2 e3
  rw [z] at h
  cases h
theorem hold_same {w : Wd} {s : Sto} {H : Hp} {b : Option Addr} (r : RS T w s H) : Same (hold w s H b) H := fun a o h => by
  unfold hold at h
  split at h
  · exact h
  · exact r.z _ _ h
theorem hold_g {w : Wd} {s : Sto} {H : Hp} {b : Option Addr} (r : RS T w s H) {a : Addr} {o : HO} (h : hold w s H b a = some o) : w.G a = none := by
  unfold hold at h
  split at h
  · rename_i q
    obtain ⟨⟨i, u, e1, e2, e3⟩, _⟩ := q
    obtain ⟨_, _, _, z, _⟩ := r.live i u a e1 e2 e3
    exact z
  · exact r.gz _ _ h
theorem rxs_pure {w w' : Wd} (hg : w'.G = w.G) : ∀ {xs : List Xv} {vs : List V}, refsOf xs = [] → RXs T w xs vs → RXs T w' xs vs
  | [], vs, _, e => e
  | .d x :: xs, vs, h, ⟨v, r, e1, e2, e3⟩ => ⟨v, r, e1, by
    show R T w'.G x v
    rw [hg]
    exact e2, rxs_pure hg h e3⟩
  | .ref _ :: xs, vs, h, _ => by cases h
theorem RX.sameG {w w' : Wd} {x : D} {v : V} (hg : w'.G = w.G) (h : RX T w (.d x) v) : RX T w' (.d x) v := by
  show R T w'.G x v
  rw [hg]
  exact h
/-- behind a call that was handed no object: the caller's world -/
theorem back0 {w w' : Wd} {s s' : Sto} {H H' : Hp} (r : RS T w s H) (l : Le { w with io := [], Z := hold w s H none } w') (r' : RS T w' s' H') : Le w { w with G := w'.G } ∧ RS T { w with G := w'.G } s H' := by
  have zz : ∀ {a : Addr} {o : HO}, hold w s H none a = some o → H' a = some o ∧ w'.G a = none := fun {a o} h => by
    have e : w'.Z = hold w s H none := l.z
    exact ⟨r'.z _ _ (by rw [e]; exact h), r'.gz a o (by rw [e]; exact h)⟩
  refine ⟨⟨l.g, rfl, [], by simp⟩, ⟨r'.g, fun a o h => (zz (hold_z r h)).1, fun a o h => (zz (hold_z r h)).2, r.len, fun i o a e1 e2 e3 => ?_, r.inj⟩⟩
  obtain ⟨ho, h1, h2, h3, h4⟩ := r.live i o a e1 e2 e3
  have q := zz ((hold_lv (w := w) (s := s) (H := H) (b := none) ⟨i, o, e1, e2, e3⟩ (by intro z; cases z)).trans h1)
  exact ⟨ho, q.1, RO.mono l.g h2, q.2, h4⟩
/-- a callee's new object -/
theorem new_of {w w' : Wd} {s s' : Sto} {H H' : Hp} {b : Option Addr} (r : RS T w s H) (hz : w'.Z = hold w s H b) (r' : RS T w' s' H') {j : Nat} {o : O} {a : Addr} (e1 : s'[j]? = some o) (e2 : o ≠ .dead) (e3 : w'.io[j]? = some a) (hb : some a ≠ b) :
    ∃ ho, H' a = some ho ∧ RO T w'.G o ho ∧ w'.G a = none ∧ w.Z a = none ∧ ¬ Lv w s a := by
  obtain ⟨ho, h1, h2, h3, h4⟩ := r'.live j o a e1 e2 e3
  have nl : ¬ Lv w s a := fun hl => by
    rw [hz, hold_lv hl hb] at h4
    obtain ⟨i, u, q1, q2, q3⟩ := hl
    obtain ⟨_, k, _⟩ := r.live i u a q1 q2 q3
    rw [h4] at k
    cases k
  refine ⟨ho, h1, h2, h3, ?_, nl⟩
  cases z : w.Z a with
  | none => rfl
  | some u =>
    rw [hz, hold_z (b := b) r z] at h4
    cases h4
/-- a new object joins the store, or the plain data -/
theorem join_new {W : WX} {st : L2.St} {w : Wd} {s : Sto} {H : Hp} {m : Bool} {o : O} {ho : HO} {a : Addr} {Q : VK} (r : RS T w s H) (h1 : H a = some ho) (h2 : RO T w.G o ho) (h3 : w.G a = none) (h4 : w.Z a = none) (h5 : ¬ Lv w s a) (p : PostE T W st w (mkO m o s) Q) : Q (.ref a) H := by
  have keep : o ≠ .dead → Le w { w with io := w.io ++ [a] } ∧ RS T { w with io := w.io ++ [a] } (s ++ [o]) H := fun hd => by
    have at1 : ∀ {i : Nat} {v : O} {b : Addr}, (s ++ [o])[i]? = some v → (w.io ++ [a])[i]? = some b → (s[i]? = some v ∧ w.io[i]? = some b) ∨ (i = s.length ∧ v = o ∧ b = a) := fun {i v b} e1 e3 => by
      by_cases hi : i < s.length
      · rw [List.getElem?_append_left hi] at e1
        rw [List.getElem?_append_left (by rw [r.len]; exact hi)] at e3
        exact .inl ⟨e1, e3⟩
      · have hb := (List.getElem?_eq_some_iff.mp e1).1
        have hi2 : i = s.length := by simp at hb; omega
        rw [hi2, List.getElem?_append_right (Nat.le_refl _)] at e1
        rw [hi2, List.getElem?_append_right (by rw [r.len]; exact Nat.le_refl _), r.len] at e3
        simp at e1 e3
        exact .inr ⟨hi2, e1.symm, e3.symm⟩
    refine ⟨⟨Same.refl _, rfl, [a], rfl⟩, ⟨r.g, r.z, r.gz, by simp [r.len], fun i v b e1 e2 e3 => ?_, fun i j v v' b e1 e2 e3 e4 e5 e6 => ?_⟩⟩
    · rcases at1 e1 e3 with ⟨q1, q2⟩ | ⟨_, q2, q3⟩
      · exact r.live i v b q1 e2 q2
      · subst q2 q3
        exact ⟨ho, h1, h2, h3, h4⟩
    · rcases at1 e1 e5 with ⟨q1, q2⟩ | ⟨q1, q2, q3⟩
      · rcases at1 e3 e6 with ⟨k1, k2⟩ | ⟨_, _, k3⟩
        · exact r.inj i j v v' b q1 e2 k1 e4 q2 k2
        · exact absurd ⟨i, v, q1, e2, by rw [← k3]; exact q2⟩ h5
      · rcases at1 e3 e6 with ⟨k1, k2⟩ | ⟨k1, _, _⟩
        · exact absurd ⟨j, v', k1, e4, by rw [← q3]; exact k2⟩ h5
        · rw [q1, k1]
  have froz : Le w { w with G := upd w.G a ho } ∧ RS T { w with G := upd w.G a ho } s H := by
    have sg : Same w.G (upd w.G a ho) := fun b u e => by rw [upd_ne (ne_of_none e h3)]; exact e
    refine ⟨⟨sg, rfl, [], by simp⟩, ⟨fun b u e => ?_, r.z, fun b u e => ?_, r.len, fun i u b e1 e2 e3 => ?_, r.inj⟩⟩
    · by_cases hb : b = a
      · subst hb
        have e' : upd w.G b ho b = some u := e
        rw [upd_same] at e'
        rw [h1]
        exact e'
      · have e' : upd w.G a ho b = some u := e
        rw [upd_ne hb] at e'
        exact r.g _ _ e'
    · have hb : b ≠ a := ne_of_none e h4
      show upd w.G a ho b = none
      rw [upd_ne hb]
      exact r.gz _ _ e
    · obtain ⟨hb, q1, q2, q3, q4⟩ := r.live i u b e1 e2 e3
      have hne : b ≠ a := fun z => h5 ⟨i, u, e1, e2, by rw [← z]; exact e3⟩
      exact ⟨hb, q1, RO.mono sg q2, by show upd w.G a ho b = none; rw [upd_ne hne]; exact q3, q4⟩
  unfold mkO at p
  split at p
  · exact p.elim
  · rename_i o' hd
    obtain ⟨l, r'⟩ := keep (fun z => hd z)
    refine p _ _ _ l ⟨a, ?_, rfl⟩ r'
    show (w.io ++ [a])[s.length]? = some a
    rw [← r.len]
    simp
  · obtain ⟨l, r'⟩ := froz
    obtain ⟨vs, e1, e2⟩ := h2
    refine p _ _ _ l ?_ r'
    show R T _ _ _
    unfold R
    exact ⟨a, vs, rfl, by show upd w.G a ho a = _; rw [upd_same, e1], Rs.mono l.g e2⟩
  · obtain ⟨l, r'⟩ := froz
    obtain ⟨dx, fs, e1, e2, e3⟩ := h2
    refine p _ _ _ l ?_ r'
    show R T _ _ _
    unfold R
    exact ⟨a, dx, fs, rfl, by show upd w.G a ho a = _; rw [upd_same, e1], e2, Rs.mono l.g e3⟩
  · exact p.elim
theorem rexc_g {w w' : Wd} {e : D} {cls : Value} {d : Option Addr} (hg : w'.G = w.G) (h : RExc T w e cls d) : RExc T w' e cls d := by
  obtain ⟨c, ns, xs, fs, h1, h2, h3, h4, h5⟩ := h
  exact ⟨c, ns, xs, fs, h1, h2, by rw [hg]; exact h3, h4, by rw [hg]; exact h5⟩
theorem run0_ok {st : L2.St} {w : Wd} {m : Bool} {F : Fn} {xs : List Xv} {vs : List V} {s : Sto} {H : Hp} {Q : VK} {n : Nat} (hn : xs.length = n) (h0 : refsOf xs = []) (x : RXs T w xs vs) (r : RS T w s H) (p : PostE T W st w (run0 m F xs s) Q) : spF T n F vs H Q (WE W st) := by
  refine ⟨{ w with io := [], Z := hold w s H none }, xs, [], hn, rxs_pure (w := w) (w' := { w with io := [], Z := hold w s H none }) rfl h0 x, ⟨r.g, hold_same r, fun a o h => hold_g r h, rfl, fun i o a e => by simp at e, fun i j o u a e => by simp at e⟩, ?_⟩
  unfold run0 at p
  cases hF : F xs [] with
  | ok v s2 =>
    rw [hF] at p
    intro w' u H' l rx r'
    obtain ⟨l2, r2⟩ := back0 r l r'
    cases v with
    | d v => exact PostE.mono l2 p _ _ _ (.refl _) (RX.sameG (w := w') rfl rx) r2
    | ref j =>
      dsimp only at p
      split at p
      · rename_i o ho
        obtain ⟨a, e1, e2⟩ := rx
        subst e2
        have hd : o ≠ .dead := fun z => by
          subst z
          unfold mkO at p
          cases m <;> exact p.elim
        obtain ⟨h', q1, q2, q3, q4, q5⟩ := new_of r l.z r' ho hd e1 (by intro z; cases z)
        exact join_new r2 q1 q2 q3 q4 q5 (PostE.mono l2 p)
      · exact p.elim
  | exc e s2 =>
    rw [hF] at p
    intro w' cls d H' l rx r'
    obtain ⟨l2, r2⟩ := back0 r l r'
    exact PostE.mono l2 p _ _ _ _ (.refl _) (rexc_g (w := w') rfl rx) r2
  | stuck =>
    rw [hF] at p
    exact p.elim
/-- behind a call that was handed one object -/
theorem back1 {w w' : Wd} {s s' : Sto} {H H' : Hp} {i : Nat} {a : Addr} {o o2 : O} (r : RS T w s H) (e1 : s[i]? = some o) (e2 : o ≠ .dead) (e3 : w.io[i]? = some a) (l : Le { w with io := [a], Z := hold w s H (some a) } w') (r' : RS T w' s' H') (h2 : s'[0]? = some o2) :
    Le w { w with G := w'.G } ∧ RS T { w with G := w'.G } (s.set i o2) H' := by
  have il : i < s.length := (List.getElem?_eq_some_iff.mp e1).1
  have zz : ∀ {b : Addr} {u : HO}, hold w s H (some a) b = some u → H' b = some u ∧ w'.G b = none := fun {b u} h => by
    have e : w'.Z = hold w s H (some a) := l.z
    exact ⟨r'.z _ _ (by rw [e]; exact h), r'.gz b u (by rw [e]; exact h)⟩
  have h0 : w'.io[0]? = some a := by
    obtain ⟨t, e⟩ := l.io
    rw [e]
    rfl
  have back : ∀ (m : Nat) (v : O), (s.set i o2)[m]? = some v → v ≠ .dead → ∃ v0, s[m]? = some v0 ∧ v0 ≠ .dead := fun m v q1 q2 => by
    by_cases hm : i = m
    · subst hm
      exact ⟨o, e1, e2⟩
    · rw [List.getElem?_set_ne hm] at q1
      exact ⟨v, q1, q2⟩
  refine ⟨⟨l.g, rfl, [], by simp⟩, ⟨r'.g, fun b u h => (zz (hold_z r h)).1, fun b u h => (zz (hold_z r h)).2, by simp [r.len], fun j v b q1 q2 q3 => ?_, fun j k v v' b q1 q2 q3 q4 q5 q6 => ?_⟩⟩
  · by_cases hj : i = j
    · subst hj
      have q3' : w.io[i]? = some b := q3
      rw [e3] at q3'
      cases q3'
      rw [List.getElem?_set_self il] at q1
      cases q1
      obtain ⟨ho, k1, k2, k3, _⟩ := r'.live 0 o2 a h2 q2 h0
      obtain ⟨_, _, _, _, k5⟩ := r.live i o a e1 e2 e3
      exact ⟨ho, k1, k2, k3, k5⟩
    · rw [List.getElem?_set_ne hj] at q1
      have q3' : w.io[j]? = some b := q3
      obtain ⟨ho, k1, k2, k3, k4⟩ := r.live j v b q1 q2 q3'
      have hne : b ≠ a := fun z => hj (r.inj i j o v a e1 e2 q1 q2 e3 (by rw [← z]; exact q3'))
      have q := zz ((hold_lv (w := w) (s := s) (H := H) (b := some a) ⟨j, v, q1, q2, q3'⟩ (fun z => hne (Option.some.inj z))).trans k1)
      exact ⟨ho, q.1, RO.mono l.g k2, q.2, k4⟩
  · obtain ⟨v0, k1, k2⟩ := back j v q1 q2
    obtain ⟨v1, k3, k4⟩ := back k v' q3 q4
    exact r.inj j k v0 v1 b k1 k2 k3 k4 q5 q6
theorem rxs_zero {w w' : Wd} {i : Nat} {a : Addr} (hg : w'.G = w.G) (e : w.io[i]? = some a) (e' : w'.io[0]? = some a) : ∀ {xs : List Xv} {vs : List V}, allEq i (refsOf xs) = true → RXs T w xs vs → RXs T w' (zero xs) vs
  | [], vs, _, h => h
  | .d x :: xs, vs, h, ⟨v, r, e1, e2, e3⟩ => ⟨v, r, e1, RX.sameG hg e2, rxs_zero hg e e' h e3⟩
  | .ref j :: xs, vs, h, ⟨v, r, e1, e2, e3⟩ => by
    have h' : (j == i && allEq i (refsOf xs)) = true := h
    rw [Bool.and_eq_true] at h'
    have hj : j = i := by simpa using h'.1
    subst hj
    obtain ⟨b, q1, q2⟩ := e2
    rw [e] at q1
    cases q1
    exact ⟨v, r, e1, ⟨a, e', q2⟩, rxs_zero hg e e' h'.2 e3⟩
theorem zero_length : ∀ xs : List Xv, (zero xs).length = xs.length
  | [] => rfl
  | .d _ :: xs => congrArg Nat.succ (zero_length xs)
  | .ref _ :: xs => congrArg Nat.succ (zero_length xs)
theorem run1_ok {st : L2.St} {w : Wd} {m : Bool} {F : Fn} {xs : List Xv} {vs : List V} {s : Sto} {H : Hp} {Q : VK} {n i : Nat} (hn : xs.length = n) (h0 : allEq i (refsOf xs) = true) (hm : i ∈ refsOf xs) (x : RXs T w xs vs) (r : RS T w s H) (p : PostE T W st w (run1 m F xs i s) Q) : spF T n F vs H Q (WE W st) := by
  unfold run1 at p
  split at p
  · exact p.elim
  · exact p.elim
  · rename_i o hnd hd
    have e2 : o ≠ .dead := fun z => hnd z
    have il : i < w.io.length := by
      rw [r.len]
      exact (List.getElem?_eq_some_iff.mp hd).1
    obtain ⟨a, e3⟩ : ∃ a, w.io[i]? = some a := ⟨_, List.getElem?_eq_getElem il⟩
    obtain ⟨ho, k1, k2, k3, k4⟩ := r.live i o a hd e2 e3
    have rz : ∀ {b : Addr}, hold w s H (some a) a = none := fun {b} => by
      unfold hold
      rw [if_neg (fun z => z.2 rfl)]
      exact k4
    have rr : RS T { w with io := [a], Z := hold w s H (some a) } [o] H := by
      refine ⟨r.g, hold_same r, fun b u h => hold_g r h, rfl, fun j v b q1 q2 q3 => ?_, fun j k u v b q1 _ q2 _ _ _ => ?_⟩
      · have hj : j = 0 := by
          have := (List.getElem?_eq_some_iff.mp q1).1
          simp at this
          exact this
        subst hj
        have q1' : o = v := by simpa using q1
        have q3' : a = b := by
          have q3'' : [a][0]? = some b := q3
          simpa using q3''
        subst q1' q3'
        exact ⟨ho, k1, k2, k3, rz (b := a)⟩
      · have h1 := (List.getElem?_eq_some_iff.mp q1).1
        have h2 := (List.getElem?_eq_some_iff.mp q2).1
        simp at h1 h2
        rw [h1, h2]
    refine ⟨{ w with io := [a], Z := hold w s H (some a) }, zero xs, [o], by rw [zero_length]; exact hn, rxs_zero (w := w) (w' := { w with io := [a], Z := hold w s H (some a) }) rfl e3 rfl h0 x, rr, ?_⟩
    split at p
    · rename_i v s2 hF
      rw [hF]
      split at p
      · rename_i o2 h2g
        obtain ⟨h2, hdd⟩ := get0_ok h2g
        intro w' u H' l rx r'
        obtain ⟨l2, r2⟩ := back1 r hd e2 e3 l r' h2
        exact PostE.mono l2 p _ _ _ (.refl _) (RX.sameG (w := w') rfl rx) r2
      · exact p.elim
    · rename_i j s2 hF
      rw [hF]
      split at p
      · rename_i o2 h2g
        obtain ⟨h2, hdd⟩ := get0_ok h2g
        intro w' u H' l rx r'
        obtain ⟨l2, r2⟩ := back1 r hd e2 e3 l r' h2
        obtain ⟨b, q1, q2⟩ := rx
        have h0' : w'.io[0]? = some a := by
          obtain ⟨t, e⟩ := l.io
          rw [e]
          rfl
        split at p
        · rename_i hj
          subst hj
          rw [h0'] at q1
          cases q1
          exact PostE.mono l2 p _ _ _ (.refl _) ⟨a, e3, q2⟩ r2
        · rename_i hj
          split at p
          · rename_i u2 hu
            subst q2
            have hd2 : u2 ≠ .dead := fun z => by
              subst z
              unfold mkO at p
              cases m <;> exact p.elim
            have hb : some b ≠ some a := fun z => by
              have zb : b = a := Option.some.inj z
              subst zb
              obtain ⟨ho2, g1, g2, g3, g4⟩ := r'.live j u2 b hu hd2 q1
              exact hj (r'.inj j 0 u2 o2 b hu hd2 h2 hdd q1 h0')
            obtain ⟨h', g1, g2, g3, g4, g5⟩ := new_of r l.z r' hu hd2 q1 hb
            refine join_new r2 g1 g2 g3 g4 (fun z => ?_) (PostE.mono l2 p)
            obtain ⟨jj, vv, z1, z2, z3⟩ := z
            refine g5 ?_
            by_cases hjj : i = jj
            · subst hjj
              have z3' : w.io[i]? = some b := z3
              exact ⟨i, o, hd, e2, z3'⟩
            · rw [List.getElem?_set_ne hjj] at z1
              exact ⟨jj, vv, z1, z2, z3⟩
          · exact p.elim
      · exact p.elim
    · rename_i e s2 hF
      rw [hF]
      split at p
      · rename_i o2 h2g
        obtain ⟨h2, hdd⟩ := get0_ok h2g
        intro w' cls d H' l rx r'
        obtain ⟨l2, r2⟩ := back1 r hd e2 e3 l r' h2
        exact PostE.mono l2 p _ _ _ _ (.refl _) (rexc_g (w := w') rfl rx) r2
      · exact p.elim
    · exact p.elim
theorem runC_ok {st : L2.St} {w : Wd} {m : Bool} {F : Fn} {xs : List Xv} {vs : List V} {s : Sto} {H : Hp} {Q : VK} {n : Nat} (hn : xs.length = n) (x : RXs T w xs vs) (r : RS T w s H) (p : PostE T W st w (runC m F xs s) Q) : spF T n F vs H Q (WE W st) := by
  unfold runC at p
  split at p
  · rename_i h
    exact run0_ok hn h x r p
  · rename_i i t h
    split at p
    · rename_i ha
      refine run1_ok (i := i) hn ?_ ?_ x r p
      · rw [h]
        show (i == i && allEq i t) = true
        rw [ha, beq_self_eq_true]
        rfl
      · rw [h]
        exact List.mem_cons_self ..
    · exact p.elim
theorem RXs.append {w : Wd} : ∀ {xs ys : List Xv} {vs us : List V}, RXs T w xs vs → RXs T w ys us → RXs T w (xs ++ ys) (vs ++ us)
  | [], ys, vs, us, e, h => by
    have e' : vs = [] := e
    subst e'
    exact h
  | d :: ds, ys, vs, us, ⟨v, r, e1, e2, e3⟩, h => by
    subst e1
    exact ⟨v, r ++ us, rfl, e2, e3.append h⟩
theorem rxs_of_rs {w : Wd} : ∀ {ds : List D} {vs : List V}, Rs T w.G ds vs → RXs T w (ds.map .d) vs
  | [], vs, h => by
    unfold Rs at h
    exact h
  | d :: ds, vs, h => by
    unfold Rs at h
    obtain ⟨v, r, e1, e2, e3⟩ := h
    exact ⟨v, r, e1, e2, rxs_of_rs e3⟩
/-- f(e, ..) -/
theorem pf_call {k : Nat} {f : Addr} {fd : FuncData} {ps : List Str} {F : Fn} {n : Nat} {dv : List D} {dvs : List V} {ds : List Value} {x : Str} {p pos : Pos} {e : Expr} {es : List Expr} {g : FA} (m : Bool)
    (G : FnG X.prog X.w X.K X.mg X.base k f fd ps (spF T n F)) (hr : RoomG k X.A) (tk : Takes X W) (hm : X.mg x = some (.ref f)) (hk : PySem.W.keepIn X.K (.ref f) = true) (hb : Binds X.K fd ps ds) (hd : Vals dvs ds) (hv : ∀ G, Rs T G dv dvs)
    (ha : PFA T X W (e :: es) g) (hl : (e :: es).length + dv.length = n := by rfl) (hg : Gl X x := by rfl) (hdb : (x == ("__debug__" : Str)) = false := by decide) (he : starEach (e :: es) X.env = (false, eval e X.env) :: starEach es X.env := by rfl)
    (hpl : (backTo pos (starEach es X.env)).any (·.1) = false := by rfl) (hgl : ∀ ρ s xs s1, g ρ s = .ok xs s1 → xs.length = (e :: es).length) :
    PF T X W (.Call (.Name x p) (e :: es) [] pos) (callF m F dv g) :=
  PE.imp (pe_callG (E := WE W) G hr hg hm hk hb hd (fun σ => passAt tk σ) ha hdb he hpl) fun st H Q ⟨w, ρ, s, e0, q, p0⟩ => by
    refine ⟨w, ρ, s, e0, q, ?_⟩
    have hq := hgl ρ s
    unfold callF at p0
    revert p0 hq
    cases g ρ s with
    | exc a b => exact fun p _ => p
    | stuck => exact fun p _ => p
    | ok xs s1 =>
      intro p0 hq w1 us H1 l x1 r1
      exact runC_ok (by rw [List.length_append, List.length_map, hq xs s1 rfl]; exact hl) (x1.append (rxs_of_rs (hv _))) r1 (PostE.mono l p0)
theorem pf_call0 {k : Nat} {f : Addr} {fd : FuncData} {ps : List Str} {F : Fn} {n : Nat} {dv : List D} {dvs : List V} {ds : List Value} {x : Str} {p pos : Pos} (m : Bool)
    (G : FnG X.prog X.w X.K X.mg X.base k f fd ps (spF T n F)) (hr : RoomG k X.A) (tk : Takes X W) (hm : X.mg x = some (.ref f)) (hk : PySem.W.keepIn X.K (.ref f) = true) (hb : Binds X.K fd ps ds) (hd : Vals dvs ds) (hv : ∀ G, Rs T G dv dvs)
    (hl : dv.length = n := by rfl) (hg : Gl X x := by rfl) (hdb : (x == ("__debug__" : Str)) = false := by decide) : PF T X W (.Call (.Name x p) [] [] pos) (callF m F dv nilA) :=
  PE.imp (pe_callG0 (E := WE W) G hr hg hm hk hb hd (fun σ => passAt tk σ) hdb) fun st H Q ⟨w, ρ, s, e0, q, p0⟩ =>
    runC_ok (w := w) (s := s) (xs := dv.map .d) (by rw [List.length_map]; exact hl) (rxs_of_rs (hv _)) q p0
/-- how many values an argument list gives -/
def LenA (g : FA) (n : Nat) : Prop := ∀ ρ s xs s1, g ρ s = .ok xs s1 → xs.length = n
theorem len_nil : LenA nilA 0 := fun ρ s xs s1 h => by
  cases h
  rfl
theorem len_cons {f : FE} {g : FA} {n : Nat} (h : LenA g n) : LenA (consA f g) (n + 1) := fun ρ s xs s1 k => by
  unfold consA at k
  cases hf : f ρ s with
  | exc a b => rw [hf] at k; cases k
  | stuck => rw [hf] at k; cases k
  | ok x s2 =>
    rw [hf] at k
    have k' : (g ρ s2).bindA (fun xs s2 => ResL.ok (x :: xs) s2) = .ok xs s1 := k
    cases hg : g ρ s2 with
    | exc a b => rw [hg] at k'; cases k'
    | stuck => rw [hg] at k'; cases k'
    | ok ys s3 =>
      rw [hg] at k'
      cases k'
      rw [List.length_cons, h _ _ _ _ hg]
end
end FL

set_option Elab.async false
set_option linter.all false
set_option maxRecDepth 100000
set_option maxHeartbeats 4000000
namespace FL
open PySem PySem.Spec PyProof.Rows L2
section
variable {T : Tx} {X : Cx} {W : WX}
theorem RE.set {w : Wd} {ρ : Env'} {st : L2.St} {x : Xv} {v : V} (e : RE T w ρ st) (i : Nat) (h : RX T w x v) : RE T w (ρ.set i (some x)) (st.set i (some v)) := by
  refine ⟨by simp [e.len], fun j y q => ?_⟩
  by_cases hj : i = j
  · subst hj
    have il : i < ρ.length := by
      have := (List.getElem?_eq_some_iff.mp q).1
      simpa using this
    rw [List.getElem?_set_self il] at q
    cases q
    exact ⟨v, by rw [List.getElem?_set_self (by rw [← e.len]; exact il)], h⟩
  · rw [List.getElem?_set_ne hj] at q ⊢
    exact e.at_ j y q
/-! ### small statements -/
def skipS : FS := fun ρ s => .nx ρ s
def Out.andThen (o : Out) (k : Env' → Sto → Out) : Out := match o with
  | .nx r s => k r s
  | o => o
def seqS (a b : FS) : FS := fun ρ s => (a ρ s).andThen b
theorem pfs_nil : PFSs T X W [] skipS := PSs.imp pss_nil fun E st H ⟨w, ρ, s, e, q, p⟩ => p w st H (.refl _) e q
theorem pfs_cons {st : Stmt} {rest : List Stmt} {a b : FS} (h1 : PFS T X W st a) (h2 : PFSs T X W rest b) : PFSs T X W (st :: rest) (seqS a b) := by
  refine PSs.imp (pss_cons h1 h2) fun E σ H ⟨w, ρ, s, e, q, p⟩ => ⟨w, ρ, s, e, q, ?_⟩
  unfold seqS at p
  revert p
  cases a ρ s with
  | nx r s1 => exact fun p w1 σ1 H1 l e1 r1 => ⟨w1, r, s1, e1, r1, PostS.mono l p⟩
  | rt v s1 => exact fun p => p
  | bk r s1 => exact fun p => p
  | ct r s1 => exact fun p => p
  | exc x r s1 => exact fun p => p
  | stuck => exact fun p => p
theorem pfs_one {st : Stmt} {a : FS} (h1 : PFS T X W st a) : PFSs T X W [st] a := pss_one h1
theorem pfs_pass {pos : Pos} : PFS T X W (.Pass pos) skipS := PS.imp ps_pass fun E st H ⟨w, ρ, s, e, q, p⟩ => p w st H (.refl _) e q
theorem pfs_break {pos : Pos} : PFS T X W (.Break pos) (fun ρ s => .bk ρ s) := PS.imp ps_break fun E st H ⟨w, ρ, s, e, q, p⟩ => p w st H (.refl _) e q
theorem pfs_continue {pos : Pos} : PFS T X W (.Continue pos) (fun ρ s => .ct ρ s) := PS.imp ps_continue fun E st H ⟨w, ρ, s, e, q, p⟩ => p w st H (.refl _) e q
def neverS : FS := fun _ _ => .stuck
theorem pfs_never {st : Stmt} : PFS T X W st neverS := PS.imp ps_never fun E st H ⟨w, ρ, s, e, q, p⟩ => p
def retS (f : FE) : FS := fun ρ s => (f ρ s).bindS ρ fun v s1 => .rt v s1
theorem pfs_ret {e : Expr} {f : FE} {pos : Pos} (h : PF T X W e f) : PFS T X W (.Return (some e) pos) (retS f) :=
  PS.imp (ps_ret h) fun E st H ⟨w, ρ, s, e, q, p⟩ => rdE_mono (postS_bind e q p) fun u H1 ⟨w1, x, s1, l1, e1, x1, r1, p1⟩ => p1 w1 u H1 (.refl _) x1 r1
theorem pfs_retN {pos : Pos} : PFS T X W (.Return none pos) (fun _ s => .rt (.d .non) s) := PS.imp ps_retN fun E st H ⟨w, ρ, s, e, q, p⟩ => p w .non H (.refl _) rX_non q
def exprS (f : FE) : FS := fun ρ s => (f ρ s).bindS ρ fun _ s1 => .nx ρ s1
theorem pfs_expr {e : Expr} {f : FE} {pos : Pos} (h : PF T X W e f) (hs : swapsWith e none pos.line X.env = pure false := by rfl) : PFS T X W (.Expr e pos) (exprS f) :=
  PS.imp (ps_expr h hs) fun E st H ⟨w, ρ, s, e, q, p⟩ => rdE_mono (postS_bind e q p) fun u H1 ⟨w1, x, s1, l1, e1, x1, r1, p1⟩ => p1 w1 st H1 (.refl _) e1 r1
def setS (i : Nat) (f : FE) : FS := fun ρ s => (f ρ s).bindS ρ fun v s1 => .nx (ρ.set i (some v)) s1
theorem pfs_set {i : Nat} {x : Str} {e : Expr} {f : FE} {pos pos' : Pos} (hN : X.N.Nodup) (he : PF T X W e f) (hi : X.N[i]? = some x := by rfl) (hx : Loc X.env.scope x := by first | exact .inl rfl | exact .inr rfl) (hs : swapsWith e (some (.Name x pos')) pos.line X.env = pure false := by rfl)
    (hf : X.fn x = true ∨ X.env.scope.names.lookup x = some .local := by first | exact .inl rfl | exact .inr rfl | assumption) : PFS T X W (.Assign [.Name x pos'] e pos) (setS i f) :=
  PS.imp (ps_set hN hi hx he hs hf) fun E st H ⟨w, ρ, s, e, q, p⟩ => rdE_mono (postS_bind e q p) fun u H1 ⟨w1, x, s1, l1, e1, x1, r1, p1⟩ => p1 w1 _ H1 (.refl _) (e1.set i x1) r1
theorem postS_bindT {w : Wd} {st : L2.St} {ρ : Env'} {s : Sto} {H : Hp} {f : FE} {k : Xv → Sto → Out} {E : Ends} (e : RE T w ρ st) (r : RS T w s H) (p : PostS T W w ((f ρ s).bindS ρ k) E) (hk : ∀ x s1, (∃ b, truth x s1 = some b) ∨ k x s1 = .stuck) :
    rdT T W f st H fun b H1 => ∃ w1 v s1, truth v s1 = some b ∧ Le w w1 ∧ RE T w1 ρ st ∧ RS T w1 s1 H1 ∧ PostS T W w1 (k v s1) E := by
  refine ⟨w, ρ, s, e, r, ?_⟩
  cases h : f ρ s with
  | ok v s1 =>
    rw [h] at p
    rcases hk v s1 with ⟨b, eb⟩ | ek
    · exact ⟨b, eb, fun w1 H1 l y => ⟨w1, v, s1, eb, l, e.mono l, y, PostS.mono l p⟩⟩
    · have p' : PostS T W w (k v s1) E := p
      rw [ek] at p'
      exact p'.elim
  | exc x s1 =>
    rw [h] at p
    exact fun w1 c d H1 l x y => p w1 c d st H1 l x (e.mono l) y
  | stuck =>
    rw [h] at p
    exact p
def ifS (c : FE) (a b : FS) : FS := fun ρ s => (c ρ s).bindS ρ fun x s1 => match truth x s1 with | some true => a ρ s1 | some false => b ρ s1 | none => .stuck
theorem pfs_if {c : Expr} {x y : List Stmt} {f : FE} {a b : FS} {pos : Pos} (hc : PFT T X W c f) (ha : PFSs T X W x a) (hb : PFSs T X W y b) : PFS T X W (.If c x y pos) (ifS f a b) :=
  PS.imp (ps_if hc ha hb) fun E st H ⟨w, ρ, s, e, q, p⟩ => rdT_mono (postS_bindT e q p (fun x s1 => by
      cases h : truth x s1 with
      | some b => exact .inl ⟨_, rfl⟩
      | none => exact .inr rfl)) fun b H1 ⟨w1, x, s1, eb, l1, e1, r1, p1⟩ => by
    rw [eb] at p1
    cases b with
    | true =>
      rw [if_pos rfl]
      exact ⟨w1, ρ, s1, e1, r1, p1⟩
    | false =>
      rw [if_neg Bool.false_ne_true]
      exact ⟨w1, ρ, s1, e1, r1, p1⟩
/-! a, b = e1, e2 with plain local names -/
def par2S (i j : Nat) (g : FA) : FS := fun ρ s => match g ρ s with
  | .ok [x, y] s1 => .nx ((ρ.set i (some x)).set j (some y)) s1
  | .exc e s1 => .exc e ρ s1
  | _ => .stuck
theorem pfs_par2 {i j : Nat} {x y : Str} {a b : Expr} {g : FA} {px py pt pos : Pos} {kt k2 pt2} (hc : X.calm = true) (hN : X.N.Nodup) (ha : PFA T X W [a, b] g) (hi : X.N[i]? = some x := by rfl) (hj : X.N[j]? = some y := by rfl) (hij : i ≠ j := by decide)
    (hx : X.env.scope.names.lookup x = some .local := by rfl) (hy : X.env.scope.names.lookup y = some .local := by rfl) (hw : swappedStores [.Tuple [.Name x px, .Name y py] kt pt] (.Tuple [a, b] k2 pt2) X.env = pure (some [x, y]) := by rfl)
    (hs : swapsWithSole [.Tuple [.Name x px, .Name y py] kt pt] (.Tuple [a, b] k2 pt2) pos.line X.env = pure false := by rfl) : PFS T X W (.Assign [.Tuple [.Name x px, .Name y py] kt pt] (.Tuple [a, b] k2 pt2) pos) (par2S i j g) :=
  PS.imp (ps_par hc hN hi hj hij hx hy ha hw hs) fun E st H ⟨w, ρ, s, e, q, p⟩ => by
    refine ⟨w, ρ, s, e, q, ?_⟩
    unfold par2S at p
    revert p
    cases g ρ s with
    | exc z s1 => exact fun p w1 c d H1 l x y => p w1 c d st H1 l x (e.mono l) y
    | stuck => exact fun p => p
    | ok xs s1 =>
      intro p w1 us H1 l x1 r1
      match xs, p, x1 with
      | [u, v], p, x1 =>
        obtain ⟨a1, b1, e1, q1, q2⟩ := rxs2 x1
        exact ⟨a1, b1, e1, p w1 _ H1 l (((e.mono l).set i q1).set j q2) r1⟩
      | [], p, _ => exact p.elim
      | [_], p, _ => exact p.elim
      | _ :: _ :: _ :: _, p, _ => exact p.elim
def par3S (i j k : Nat) (g : FA) : FS := fun ρ s => match g ρ s with
  | .ok [x, y, z] s1 => .nx (((ρ.set i (some x)).set j (some y)).set k (some z)) s1
  | .exc e s1 => .exc e ρ s1
  | _ => .stuck
theorem pfs_par3 {i j l : Nat} {x y z : Str} {a b c : Expr} {g : FA} {px py pz pt pos : Pos} {kt k2 pt2} (hc : X.calm = true) (hN : X.N.Nodup) (ha : PFA T X W [a, b, c] g) (hi : X.N[i]? = some x := by rfl) (hj : X.N[j]? = some y := by rfl) (hl : X.N[l]? = some z := by rfl) (hij : i ≠ j := by decide) (hil : i ≠ l := by decide) (hjl : j ≠ l := by decide)
    (hx : X.env.scope.names.lookup x = some .local := by rfl) (hy : X.env.scope.names.lookup y = some .local := by rfl) (hz : X.env.scope.names.lookup z = some .local := by rfl) (hw : swappedStores [.Tuple [.Name x px, .Name y py, .Name z pz] kt pt] (.Tuple [a, b, c] k2 pt2) X.env = pure (some [x, y, z]) := by rfl)
    (hs : swapsWithSole [.Tuple [.Name x px, .Name y py, .Name z pz] kt pt] (.Tuple [a, b, c] k2 pt2) pos.line X.env = pure false := by rfl) : PFS T X W (.Assign [.Tuple [.Name x px, .Name y py, .Name z pz] kt pt] (.Tuple [a, b, c] k2 pt2) pos) (par3S i j l g) :=
  PS.imp (ps_par3 hc hN hi hj hl hij hil hjl hx hy hz ha hw hs) fun E st H ⟨w, ρ, s, e, q, p⟩ => by
    refine ⟨w, ρ, s, e, q, ?_⟩
    unfold par3S at p
    revert p
    cases g ρ s with
    | exc z s1 => exact fun p w1 c d H1 l x y => p w1 c d st H1 l x (e.mono l) y
    | stuck => exact fun p => p
    | ok xs s1 =>
      intro p w1 us H1 l x1 r1
      match xs, p, x1 with
      | [u, v, z], p, x1 =>
        obtain ⟨a1, r, e1, q1, q2⟩ := x1
        obtain ⟨b1, c1, e2, q3, q4⟩ := rxs2 q2
        subst e2
        exact ⟨a1, b1, c1, e1, p w1 _ H1 l ((((e.mono l).set i q1).set j q3).set _ q4) r1⟩
      | [], p, _ => exact p.elim
      | [_], p, _ => exact p.elim
      | [_, _], p, _ => exact p.elim
      | _ :: _ :: _ :: _ :: _, p, _ => exact p.elim

/-! ### targets -/
/-- a target: it stores at the slots ix alone -/
def rdG (T : Tx) (asg : Xv → Env' → Option Env') (ix : List Nat) : TG := fun v st H Q => ∃ w ρ s x r1, RX T w x v ∧ RE T w ρ st ∧ RS T w s H ∧ asg x ρ = some r1 ∧
  ∀ w' st' H', Le w w' → RE T w' r1 st' → RS T w' s H' → st'.length = st.length → (∀ j, j ∉ ix → st'[j]? = st[j]?) → Q st' H'
abbrev PFG (T : Tx) (X : Cx) (tg : Expr) (asg : Xv → Env' → Option Env') (ix : List Nat) : Prop := PG X tg (rdG T asg ix)
theorem PG.imp {tg : Expr} {t t' : TG} (h : PG X tg t) (k : ∀ v st H Q, t' v st H Q → t v st H Q) : PG X tg t' := ⟨fun pins s σ H v u Q I r q => h.run pins s σ H v u Q I r (k _ _ _ _ q)⟩
def nameG (i : Nat) : Xv → Env' → Option Env' := fun x ρ => some (ρ.set i (some x))
theorem pfg_name {i : Nat} {x : Str} {pos : Pos} (hN : X.N.Nodup) (hi : X.N[i]? = some x := by rfl) (hx : Loc X.env.scope x := by first | exact .inl rfl | exact .inr rfl) (hf : X.fn x = true ∨ X.env.scope.names.lookup x = some .local := by first | exact .inl rfl | exact .inr rfl | assumption) :
    PFG T X (.Name x pos) (nameG i) [i] := PG.imp (pg_name hN hi hx hf) fun v st H Q ⟨w, ρ, s, x, r1, x1, e1, q1, e, p⟩ => by
  cases e
  exact p w _ H (.refl _) (e1.set i x1) q1 (by simp) fun j hj => List.getElem?_set_ne (by simpa [eq_comm] using hj)
/-- several targets -/
def rdGs (T : Tx) (asg : List D → Env' → Option Env') (ix : List Nat) : TGs := fun vs st H Q => ∃ w ρ s xs r1, Rs T w.G xs vs ∧ RE T w ρ st ∧ RS T w s H ∧ asg xs ρ = some r1 ∧
  ∀ w' st' H', Le w w' → RE T w' r1 st' → RS T w' s H' → st'.length = st.length → (∀ j, j ∉ ix → st'[j]? = st[j]?) → Q st' H'
theorem PGs.imp {tg : List Expr} {t t' : TGs} (h : PGs X tg t) (k : ∀ v st H Q, t' v st H Q → t v st H Q) : PGs X tg t' := ⟨fun pins s σ H v u Q I r q => h.run pins s σ H v u Q I r (k _ _ _ _ q)⟩
def nilG : List D → Env' → Option Env' := fun xs ρ => match xs with | [] => some ρ | _ => none
def consG (a : Xv → Env' → Option Env') (b : List D → Env' → Option Env') : List D → Env' → Option Env' := fun xs ρ => match xs with
  | x :: xs => match a (.d x) ρ with | some r => b xs r | none => none
  | [] => none
theorem pfgs_nil : PGs X [] (rdGs T nilG []) := PGs.imp pgs_nil fun vs st H Q ⟨w, ρ, s, xs, r1, x1, e1, q1, e, p⟩ => by
  unfold nilG at e
  split at e
  · cases e
    unfold Rs at x1
    exact ⟨x1, p w st H (.refl _) e1 q1 rfl fun _ _ => rfl⟩
  · cases e
theorem pfgs_cons {e : Expr} {es : List Expr} {a : Xv → Env' → Option Env'} {b : List D → Env' → Option Env'} {ia ib : List Nat} (h1 : PFG T X e a ia) (h2 : PGs X es (rdGs T b ib)) (hs : (assignEach (e :: es) X.env).map (·.2) = assign e X.env :: (assignEach es X.env).map (·.2) := by rfl) :
    PGs X (e :: es) (rdGs T (consG a b) (ia ++ ib)) := PGs.imp (pgs_cons h1 h2 hs) fun vs st H Q ⟨w, ρ, s, xs, r1, x1, e1, q1, e, p⟩ => by
  unfold consG at e
  split at e
  · rename_i x xs
    split at e
    · rename_i r2 ha
      unfold Rs at x1
      obtain ⟨v, r, f1, f2, f3⟩ := x1
      refine ⟨v, r, f1, w, ρ, s, .d x, r2, f2, e1, q1, ha, fun w1 st1 H1 l1 g1 g2 g3 g4 => ⟨w1, r2, s, xs, r1, Rs.mono l1.g f3, g1, g2, e, fun w2 st2 H2 l2 k1 k2 k3 k4 => p w2 st2 H2 (l1.trans l2) k1 k2 (k3.trans g3) fun j hj => ?_⟩⟩
      rw [List.mem_append, not_or] at hj
      exact (k4 j hj.2).trans (g4 j hj.1)
    · cases e
  · cases e
def tupG (n : Nat) (b : List D → Env' → Option Env') : Xv → Env' → Option Env' := fun x ρ => match x with
  | .d (.tup xs) => if xs.length = n then b xs ρ else none
  | _ => none
theorem pfg_tup {es : List Expr} {k : Nat} {b : List D → Env' → Option Env'} {ix : List Nat} {n : Nat} {pos : Pos} (hK : X.K = T.K) (hc : X.calm = true) (h : PGs X es (rdGs T b ix)) (hn : (assignEach es X.env).length = n := by rfl) (hst : (assignEach es X.env).findIdx? (·.1) = none := by rfl) :
    PFG T X (.Tuple es k pos) (tupG n b) ix := PG.imp (pg_tup hc h hn hst) fun v st H Q ⟨w, ρ, s, x, r1, x1, e1, q1, e, p⟩ => by
  unfold tupG at e
  split at e
  · rename_i xs
    split at e
    · rename_i hl
      obtain ⟨a, vs, f1, f2, f3⟩ := viewT_ok (xs := xs) q1 x1 rfl
      exact ⟨a, vs, f1, by rw [hK]; exact f2, by rw [← f3.length]; exact hl, w, ρ, s, xs, r1, f3, e1, q1, e, p⟩
    · cases e
  · cases e
/-- target = e -/
def asgS (asg : Xv → Env' → Option Env') (f : FE) : FS := fun ρ s => (f ρ s).bindS ρ fun v s1 => match asg v ρ with | some r => .nx r s1 | none => .stuck
theorem pfs_asg {tg e : Expr} {f : FE} {asg : Xv → Env' → Option Env'} {ix : List Nat} {pos : Pos} (he : PF T X W e f) (hg : PFG T X tg asg ix) (hs : swapsWithSole [tg] e pos.line X.env = pure false := by rfl) (hw : swappedStores [tg] e X.env = pure none := by rfl)
    (h1 : (assignEach [tg] X.env).map (·.2) = [assign tg X.env] := by rfl) : PFS T X W (.Assign [tg] e pos) (asgS asg f) :=
  PS.imp (ps_asg he hg hs hw h1) fun E st H ⟨w, ρ, s, e, q, p⟩ => rdE_mono (postS_bind e q p) fun u H1 ⟨w1, x, s1, l1, e1, x1, r1, p1⟩ => by
    split at p1
    · rename_i r2 ha
      exact ⟨w1, ρ, s1, x, r2, x1, e1, r1, ha, fun w2 st2 H2 l2 k1 k2 _ _ => p1 w2 st2 H2 l2 k1 k2⟩
    · exact p1.elim
end
end FL

set_option Elab.async false
set_option linter.all false
set_option maxRecDepth 100000
set_option maxHeartbeats 4000000
namespace FL
open PySem PySem.Spec PyProof.Rows L2
section
variable {T : Tx} {X : Cx} {W : WX}
/-! ### what is walked -/
structure Wk (T : Tx) (G : Hp) (J : It) (xs : List D) : Prop where
  go : ∀ (i : Nat) (x : D) (w : Wd) (s : Sto) (H : Hp), xs[i]? = some x → Same G w.G → RS T w s H → J.go i H ∧ ∀ v H', J.yld i H v H' → ∃ w', Le w w' ∧ RX T w' (.d x) v ∧ RS T w' s H'
  stop : ∀ (w : Wd) (s : Sto) (H : Hp), Same G w.G → RS T w s H → J.stop xs.length H
theorem Wk.mono {G G' : Hp} {J : It} {xs : List D} (h : Same G G') (k : Wk T G J xs) : Wk T G' J xs := ⟨fun i x w s H e g => k.go i x w s H e (h.trans g), fun w s H g => k.stop w s H (h.trans g)⟩
def PostI (T : Tx) (W : WX) (st : L2.St) (w : Wd) (r : Res) (Q : It → Hp → Prop) : Prop := match r with
  | .ok (.d (.lst xs)) s => ∀ w' J H', Le w w' → Wk T w'.G J xs → RS T w' s H' → Q J H'
  | .ok _ _ => False
  | .exc e s => ∀ w' cls d H', Le w w' → RExc T w' e cls d → RS T w' s H' → W cls d st H'
  | .stuck => False
theorem PostI.mono {st : L2.St} {w w' : Wd} {r : Res} {Q : It → Hp → Prop} (h : Le w w') (p : PostI T W st w r Q) : PostI T W st w' r Q := by
  unfold PostI at p ⊢
  split at p
  · exact fun w1 J H' l => p w1 J H' (h.trans l)
  · exact p.elim
  · exact fun w1 c d H' l => p w1 c d H' (h.trans l)
  · exact p.elim
def rdI (T : Tx) (W : WX) (f : FE) : TI := fun st H Q => ∃ w r s, RE T w r st ∧ RS T w s H ∧ PostI T W st w (f r s) Q
abbrev PFI (T : Tx) (X : Cx) (W : WX) (tg e : Expr) (f : FE) : Prop := PI X tg e (rdI T W f)
theorem PI.imp {tg e : Expr} {t t' : TI} (h : PI X tg e t) (k : ∀ st H Q, t' st H Q → t st H Q) : PI X tg e t' := ⟨fun pins s σ H R I q => h.run pins s σ H R I (k _ _ _ q)⟩
/-- a list or a tuple -/
def iSeq (K : PySem.W.Frag) (tl : TE) : TI := fun σ H R => tl σ H fun x H1 => ∃ a, x = .ref a ∧ (((∃ xs, SqL K H1 a xs) ∧ R (Itl K a) H1) ∨ ((∃ xs, SqT K H1 a xs) ∧ R (Itt K a) H1))
theorem pi_seq {tg l : Expr} {tl : TE} (hl : PE X l tl) : PI X tg l (iSeq X.K tl) := ⟨fun pins s σ H R I h => by
  refine thn (hl.run pins s σ H _ I h) fun v s1 ⟨x, H1, I1, r1, a, e, q1⟩ => ?_
  subst e
  have e : v = .ref a := r1
  subst e
  rcases q1 with ⟨⟨xs, hq⟩, q⟩ | ⟨⟨xs, hq⟩, q⟩
  · obtain ⟨its, rv, p, hz⟩ := I1.list hq
    refine wpAny_pyIter_list p.isList ?_
    refine ⟨s1.heap.objs.size, [s1.heap.objs.size], fun i h => h.IsListIter s1.heap.objs.size a i, Itl X.K a, H1, rfl, I1.kept fun b o e => Heap.get?_push_of_some _ e, turn_list a _, ?_, fun b hb => ?_, q⟩
    · exact ⟨_, Heap.get?_push_size s1.1 rfl, rfl, rfl⟩
    · have e : b = s1.heap.objs.size := by simpa using hb
      subst e
      exact I1.fpOk (Nat.le_refl _) (I1.hok.fresh (Nat.le_refl _))
  · obtain ⟨its, rv, p, hz⟩ := I1.tuple hq
    refine wpAny_pyIter_tuple p ?_
    refine ⟨s1.heap.objs.size, [s1.heap.objs.size], fun i h => h.IsTupleIter s1.heap.objs.size a i, Itt X.K a, H1, rfl, I1.kept fun b o e => Heap.get?_push_of_some _ e, turn_tuple a _, ?_, fun b hb => ?_, q⟩
    · exact ⟨_, Heap.get?_push_size s1.1 rfl, rfl, rfl⟩
    · have e : b = s1.heap.objs.size := by simpa using hb
      subst e
      exact I1.fpOk (Nat.le_refl _) (I1.hok.fresh (Nat.le_refl _))⟩
theorem wk_lst {G : Hp} {a : Addr} {vs : List V} {xs : List D} (e : SqL T.K G a vs) (h : Rs T G xs vs) : Wk T G (Itl T.K a) xs := by
  refine ⟨fun i x w s H hi g r => ?_, fun w s H g r => ?_⟩
  · have e' := r.g.seq (g.seq e)
    obtain ⟨v, hv, rv⟩ := h.get hi
    refine ⟨⟨vs, v, e', hv⟩, ?_⟩
    rintro u H' ⟨rfl, k⟩
    have q := k vs e'
    rw [hv] at q
    cases q
    exact ⟨w, .refl _, R.mono g rv, r⟩
  · exact ⟨vs, r.g.seq (g.seq e), Nat.le_of_eq h.length.symm⟩
theorem wk_tup {G : Hp} {a : Addr} {vs : List V} {xs : List D} (e : SqT T.K G a vs) (h : Rs T G xs vs) : Wk T G (Itt T.K a) xs := by
  refine ⟨fun i x w s H hi g r => ?_, fun w s H g r => ?_⟩
  · have e' := sqT_mono r.g (sqT_mono g e)
    obtain ⟨v, hv, rv⟩ := h.get hi
    refine ⟨⟨vs, v, e', hv⟩, ?_⟩
    rintro u H' ⟨rfl, k⟩
    have q := k vs e'
    rw [hv] at q
    cases q
    exact ⟨w, .refl _, R.mono g rv, r⟩
  · exact ⟨vs, sqT_mono r.g (sqT_mono g e), Nat.le_of_eq h.length.symm⟩
def rngD (lo : Int) (n : Nat) : List D := (List.range n).map fun k : Nat => D.int (lo + (k : Int))
theorem wk_rng {G : Hp} (lo : Int) (n : Nat) : Wk T G (Itr lo n) (rngD lo n) := by
  refine ⟨fun i x w s H hi g r => ?_, fun w s H g r => ?_⟩
  · unfold rngD at hi
    rw [List.getElem?_map] at hi
    have il : i < n := by
      by_cases q : i < n
      · exact q
      · rw [List.getElem?_eq_none (by simpa using q)] at hi
        cases hi
    rw [List.getElem?_range il] at hi
    cases hi
    refine ⟨il, ?_⟩
    rintro u H' ⟨rfl, rfl⟩
    exact ⟨w, .refl _, rX_int, r⟩
  · show n ≤ (rngD lo n).length
    unfold rngD
    simp
def iterF (f : FE) : FE := fun ρ s => (f ρ s).bind fun x s1 => match x with
  | .d (.tup xs) => .ok (.d (.lst xs)) s1
  | .d (.lst xs) => .ok (.d (.lst xs)) s1
  | .d (.scr ns) => .ok (.d (.lst (ns.map .int))) s1
  | _ => .stuck
theorem postI_bind {st : L2.St} {w : Wd} {ρ : Env'} {s : Sto} {H : Hp} {f : FE} {k : Xv → Sto → Res} {Q : It → Hp → Prop} (e : RE T w ρ st) (r : RS T w s H) (p : PostI T W st w ((f ρ s).bind k) Q) :
    rdE T W f st H fun u H1 => ∃ w1 v s1, Le w w1 ∧ RE T w1 ρ st ∧ RX T w1 v u ∧ RS T w1 s1 H1 ∧ PostI T W st w1 (k v s1) Q := by
  refine ⟨w, ρ, s, e, r, ?_⟩
  cases h : f ρ s with
  | ok v s1 =>
    rw [h] at p
    exact fun w1 u H1 l x y => ⟨w1, v, s1, l, e.mono l, x, y, PostI.mono l p⟩
  | exc x s1 =>
    rw [h] at p
    exact p
  | stuck =>
    rw [h] at p
    exact p
theorem postI_bindL {st : L2.St} {w : Wd} {ρ : Env'} {s : Sto} {H : Hp} {f : FA} {k : List Xv → Sto → Res} {Q : It → Hp → Prop} (e : RE T w ρ st) (r : RS T w s H) (p : PostI T W st w ((f ρ s).bind k) Q) :
    rdA T W f st H fun u H1 => ∃ w1 v s1, Le w w1 ∧ RE T w1 ρ st ∧ RXs T w1 v u ∧ RS T w1 s1 H1 ∧ PostI T W st w1 (k v s1) Q := by
  refine ⟨w, ρ, s, e, r, ?_⟩
  cases h : f ρ s with
  | ok v s1 =>
    rw [h] at p
    exact fun w1 u H1 l x y => ⟨w1, v, s1, l, e.mono l, x, y, PostI.mono l p⟩
  | exc x s1 =>
    rw [h] at p
    exact p
  | stuck =>
    rw [h] at p
    exact p
theorem pfi_seq {tg e : Expr} {f : FE} (hK : X.K = T.K) (h : PF T X W e f) : PFI T X W tg e (iterF f) := PI.imp (pi_seq h) fun st H Q ⟨w, ρ, s, e, q, p⟩ => rdE_mono (postI_bind e q p) fun u H1 ⟨w1, x, s1, l1, e1, x1, r1, p1⟩ => by
  rw [hK]
  split at p1
  · rename_i xs
    obtain ⟨a, vs, f1, f2, f3⟩ := (show R T w1.G (.tup xs) u from x1 : _)
    exact ⟨a, f1, .inr ⟨⟨vs, sqT_mono r1.g f2⟩, p1 w1 _ H1 (.refl _) (wk_tup f2 f3) r1⟩⟩
  · rename_i xs
    have x1' : R T w1.G (.lst xs) u := x1
    unfold R at x1'
    obtain ⟨a, vs, f1, f2, f3⟩ := x1'
    exact ⟨a, f1, .inl ⟨⟨vs, .of (r1.g _ _ f2)⟩, p1 w1 _ H1 (.refl _) (wk_lst (.of f2) f3) r1⟩⟩
  · rename_i ns
    have x1' : R T w1.G (.scr ns) u := x1
    unfold R at x1'
    obtain ⟨a, f1, f2⟩ := x1'
    exact ⟨a, f1, .inl ⟨⟨_, r1.g.seq f2⟩, p1 w1 _ H1 (.refl _) (wk_lst f2 (rs_ints ns)) r1⟩⟩
  · exact p1.elim
def rng1F (g : FA) : FE := fun ρ s => (g ρ s).bind fun xs s1 => match xs with
  | [.d (.int j)] => if -(2 ^ 62) ≤ j ∧ j < 2 ^ 62 then .ok (.d (.lst (rngD 0 j.toNat))) s1 else .stuck
  | _ => .stuck
def rng2F (g : FA) : FE := fun ρ s => (g ρ s).bind fun xs s1 => match xs with
  | [.d (.int i), .d (.int j)] => if -(2 ^ 62) ≤ i ∧ i < 2 ^ 62 ∧ -(2 ^ 62) ≤ j ∧ j < 2 ^ 62 then .ok (.d (.lst (rngD i (j - i).toNat))) s1 else .stuck
  | _ => .stuck
theorem pfi_range1 {tg a : Expr} {g : FA} {p pos : Pos} (hm : X.mg "range" = none) (ha : PFA T X W [a] g) (hg : Gl X "range" := by rfl) (hs : starEach [a] X.env = [(false, eval a X.env)] := by rfl) : PFI T X W tg (.Call (.Name "range" p) [a] [] pos) (rng1F g) :=
  PI.imp (pi_range1 hg hm ha hs) fun st H Q ⟨w, ρ, s, e, q, p⟩ => rdA_mono (postI_bindL e q p) fun us H1 ⟨w1, xs, s1, l1, e1, x1, r1, p1⟩ => by
    split at p1
    · rename_i j
      split at p1
      · rename_i h
        obtain ⟨v, rfl, x2⟩ := rxs1 x1
        cases X_int x2
        exact ⟨j, rfl, h.1, h.2, p1 w1 _ H1 (.refl _) (wk_rng 0 _) r1⟩
      · exact p1.elim
    · exact p1.elim
theorem pfi_range2 {tg a b : Expr} {g : FA} {p pos : Pos} (hm : X.mg "range" = none) (ha : PFA T X W [a, b] g) (hg : Gl X "range" := by rfl) (hs : starEach [a, b] X.env = [(false, eval a X.env), (false, eval b X.env)] := by rfl) (hs2 : starEach [b] X.env = [(false, eval b X.env)] := by rfl) :
    PFI T X W tg (.Call (.Name "range" p) [a, b] [] pos) (rng2F g) :=
  PI.imp (pi_range2 hg hm ha hs hs2) fun st H Q ⟨w, ρ, s, e, q, p⟩ => rdA_mono (postI_bindL e q p) fun us H1 ⟨w1, xs, s1, l1, e1, x1, r1, p1⟩ => by
    split at p1
    · rename_i i j
      split at p1
      · rename_i h
        obtain ⟨v, u, rfl, x2, x3⟩ := rxs2 x1
        cases X_int x2
        cases X_int x3
        exact ⟨i, j, rfl, h, p1 w1 _ H1 (.refl _) (wk_rng i _) r1⟩
      · exact p1.elim
    · exact p1.elim

/-! ### for -/
def forF (asg : Xv → Env' → Option Env') (b : FS) : List D → Env' → Sto → Out
  | [], ρ, s => .nx ρ s
  | x :: xs, ρ, s => match asg (.d x) ρ with
    | none => .stuck
    | some r => match b r s with
      | .nx r1 s1 => forF asg b xs r1 s1
      | .ct r1 s1 => forF asg b xs r1 s1
      | .bk r1 s1 => .nx r1 s1
      | o => o
def forS (asg : Xv → Env' → Option Env') (f : FE) (b : FS) : FS := fun ρ s => (f ρ s).bindS ρ fun x s1 => match x with
  | .d (.lst xs) => forF asg b xs ρ s1
  | _ => .stuck
theorem pfs_for {tg iter : Expr} {body : List Stmt} {f : FE} {b : FS} {asg : Xv → Env' → Option Env'} {ix : List Nat} {pos : Pos} (hp : PassesOwn (model X.prog X.w) X.A X.env X.xe) (hc : X.calm = true) (hi : PFI T X W tg iter f) (hg : PFG T X tg asg ix) (hb : PFSs T X W body b)
    (hf : ∀ x, foldedSetIterable iter X.env x = pure x := by exact fun _ => rfl) : PFS T X W (.For tg iter body [] pos) (forS asg f b) :=
  PS.imp (ps_for hp hc hi hg hb hf) fun E st H ⟨w, ρ, s, e, q, p⟩ => by
    refine ⟨w, ρ, s, e, q, ?_⟩
    unfold forS at p
    revert p
    cases f ρ s with
    | exc x s1 => exact fun p w1 c d H1 l x y => p w1 c d st H1 l x (e.mono l) y
    | stuck => exact fun p => p
    | ok v s1 =>
      intro p
      unfold Res.bindS at p
      dsimp only at p
      split at p
      · rename_i xs
        intro w1 J H1 l k r1
        refine ⟨fun i m σ H' => ∃ w2 ρ2 s2, RE T w2 ρ2 σ ∧ RS T w2 s2 H' ∧ Same w1.G w2.G ∧ i ≤ xs.length ∧ m = xs.length - i ∧ PostS T W w2 (forF asg b (xs.drop i) ρ2 s2) E,
          ⟨xs.length, w1, ρ, s1, e.mono l, r1, .refl _, Nat.zero_le _, rfl, PostS.mono l p⟩, ?_⟩
        rintro i m σ H' ⟨w2, ρ2, s2, e2, r2, g2, il, rfl, p2⟩
        rcases Nat.lt_or_ge i xs.length with hi | hi
        · refine .inr ?_
          have hx : xs[i]? = some xs[i] := List.getElem?_eq_getElem hi
          obtain ⟨hgo, hy⟩ := k.go i _ w2 s2 H' hx g2 r2
          refine ⟨hgo, fun σ' H'' => ∃ w3 ρ3 s3, RE T w3 ρ3 σ' ∧ RS T w3 s3 H'' ∧ Same w1.G w3.G ∧ PostS T W w3 (forF asg b (xs.drop (i + 1)) ρ3 s3) E, ?_, ?_⟩
          · rintro σ' H'' ⟨w3, ρ3, s3, e3, r3, g3, p3⟩
            exact ⟨xs.length - (i + 1), by omega, w3, ρ3, s3, e3, r3, g3, hi, rfl, p3⟩
          · intro v H'' hv
            obtain ⟨w3, l3, x3, r3⟩ := hy v H'' hv
            rw [List.drop_eq_getElem_cons hi] at p2
            unfold forF at p2
            split at p2
            · exact p2.elim
            · rename_i r ha
              refine ⟨w3, ρ2, s2, _, r, x3, e2.mono l3, r3, ha, fun w4 st4 H4 l4 e4 r4 _ _ => ?_⟩
              refine ⟨w4, r, s2, e4, r4, ?_⟩
              have p4 := PostS.mono (l3.trans l4) p2
              have g4 : Same w1.G w4.G := g2.trans (l3.trans l4).g
              revert p4
              cases b r s2 with
              | nx r5 s5 => exact fun p4 w5 st5 H5 l5 e5 r5 => ⟨w5, _, _, e5, r5, g4.trans l5.g, PostS.mono l5 p4⟩
              | ct r5 s5 => exact fun p4 w5 st5 H5 l5 e5 r5 => ⟨w5, _, _, e5, r5, g4.trans l5.g, PostS.mono l5 p4⟩
              | bk r5 s5 => exact fun p4 => p4
              | rt v5 s5 => exact fun p4 => p4
              | exc x5 r5 s5 => exact fun p4 => p4
              | stuck => exact fun p4 => p4
        · have hi' : i = xs.length := by omega
          subst hi'
          rw [List.drop_length] at p2
          exact .inl ⟨k.stop w2 s2 H' g2 r2, p2 w2 σ H' (.refl _) e2 r2⟩
      · exact p.elim

/-! ### while -/
def whileN (c : FE) (b : FS) : Nat → Env' → Sto → Out
  | 0, _, _ => .stuck
  | n + 1, ρ, s => (c ρ s).bindS ρ fun x s1 => match truth x s1 with
    | some true => match b ρ s1 with
      | .nx r1 s2 => whileN c b n r1 s2
      | .ct r1 s2 => whileN c b n r1 s2
      | .bk r1 s2 => .nx r1 s2
      | o => o
    | some false => .nx ρ s1
    | none => .stuck
def whileS (μ : Env' → Sto → Nat) (c : FE) (b : FS) : FS := fun ρ s => whileN c b (μ ρ s) ρ s
theorem pfs_while {c : Expr} {body : List Stmt} {f : FE} {b : FS} {pos : Pos} (μ : Env' → Sto → Nat) (hp : PassesOwn (model X.prog X.w) X.A X.env X.xe) (hc : PFT T X W c f) (hb : PFSs T X W body b) : PFS T X W (.While c body [] pos) (whileS μ f b) :=
  PS.imp (ps_while hp hc hb) fun E st H ⟨w, ρ, s, e, q, p⟩ => by
    refine ⟨fun m σ H' => ∃ w2 ρ2 s2, RE T w2 ρ2 σ ∧ RS T w2 s2 H' ∧ PostS T W w2 (whileN f b m ρ2 s2) E, ⟨μ ρ s, w, ρ, s, e, q, p⟩, ?_⟩
    rintro m σ H' ⟨w2, ρ2, s2, e2, r2, p2⟩
    cases m with
    | zero => exact p2.elim
    | succ n =>
      refine rdT_mono (postS_bindT e2 r2 p2 (fun x s1 => by
        cases h : truth x s1 with
        | some b => exact .inl ⟨_, rfl⟩
        | none => exact .inr rfl)) fun t H1 ⟨w3, x, s3, et, l3, e3, r3, p3⟩ => ?_
      rw [et] at p3
      cases t with
      | true =>
        rw [if_pos rfl]
        refine ⟨fun σ' H'' => ∃ w4 ρ4 s4, RE T w4 ρ4 σ' ∧ RS T w4 s4 H'' ∧ PostS T W w4 (whileN f b n ρ4 s4) E, fun σ' H'' h => ⟨n, Nat.lt_succ_self _, h⟩, w3, ρ2, s3, e3, r3, ?_⟩
        dsimp only at p3
        revert p3
        cases b ρ2 s3 with
        | nx r5 s5 => exact fun p4 w5 st5 H5 l5 e5 r5 => ⟨w5, _, _, e5, r5, PostS.mono l5 p4⟩
        | ct r5 s5 => exact fun p4 w5 st5 H5 l5 e5 r5 => ⟨w5, _, _, e5, r5, PostS.mono l5 p4⟩
        | bk r5 s5 => exact fun p4 => p4
        | rt v5 s5 => exact fun p4 => p4
        | exc x5 r5 s5 => exact fun p4 => p4
        | stuck => exact fun p4 => p4
      | false =>
        rw [if_neg Bool.false_ne_true]
        exact p3 w3 σ H1 (.refl _) e3 r3
end
end FL

set_option Elab.async false
set_option linter.all false
set_option maxRecDepth 100000
set_option maxHeartbeats 4000000
namespace FL
open PySem PySem.Spec PyProof.Rows L2
section
variable {T : Tx} {X : Cx} {W : WX}
/-! ### list comprehensions -/
def wipeF (ρ : Env') : List Nat → Env'
  | [] => ρ
  | v :: vs => (wipeF ρ vs).set v none
theorem RE.wipe {w : Wd} {ρ : Env'} {st : L2.St} (e : RE T w ρ st) : ∀ vs : List Nat, RE T w (wipeF ρ vs) (L2.wipe st vs)
  | [] => e
  | v :: vs => by
    have k := RE.wipe e vs
    show RE T w ((wipeF ρ vs).set v none) ((L2.wipe st vs).set v none)
    refine ⟨by simp [k.len], fun j y q => ?_⟩
    by_cases hj : v = j
    · subst hj
      have il : v < (wipeF ρ vs).length := by
        have := (List.getElem?_eq_some_iff.mp q).1
        simpa using this
      rw [List.getElem?_set_self il] at q
      cases q
    · rw [List.getElem?_set_ne hj] at q ⊢
      exact k.at_ j y q
theorem wipe_get {st : L2.St} {vs : List Nat} {j : Nat} (h : j ∉ vs) : (L2.wipe st vs)[j]? = st[j]? := by
  induction vs with
  | nil => rfl
  | cons v vs ih =>
    rw [List.mem_cons, not_or] at h
    show ((L2.wipe st vs).set v none)[j]? = _
    rw [List.getElem?_set_ne (fun z => h.1 z.symm)]
    exact ih h.2
theorem wipe_len {st : L2.St} {vs : List Nat} : (L2.wipe st vs).length = st.length := by
  induction vs with
  | nil => rfl
  | cons v vs ih =>
    show ((L2.wipe st vs).set v none).length = _
    rw [List.length_set, ih]
theorem wipe_at {st : L2.St} {vs : List Nat} {j : Nat} (h : j ∈ vs) (hj : j < st.length) : (L2.wipe st vs)[j]? = some none := by
  induction vs with
  | nil => cases h
  | cons v vs ih =>
    show ((L2.wipe st vs).set v none)[j]? = _
    by_cases hv : v = j
    · subst hv
      rw [List.getElem?_set_self (by rw [wipe_len]; exact hj)]
    · rw [List.getElem?_set_ne hv]
      rcases List.mem_cons.mp h with e | e
      · exact absurd e.symm hv
      · exact ih e
theorem wipe_eq {σ σ2 : L2.St} {vs ix : List Nat} (hl : σ2.length = σ.length) (h : ∀ j, j ∉ ix → σ2[j]? = (L2.wipe σ vs)[j]?) (hix : ∀ j ∈ ix, j ∈ vs) : L2.wipe σ2 vs = L2.wipe σ vs := by
  apply List.ext_getElem?
  intro j
  by_cases hj : j ∈ vs
  · by_cases q : j < σ.length
    · rw [wipe_at hj q, wipe_at hj (by rw [hl]; exact q)]
    · rw [List.getElem?_eq_none (by rw [wipe_len, hl]; omega), List.getElem?_eq_none (by rw [wipe_len]; omega)]
  · rw [wipe_get hj, h j (fun z => hj (hix j z)), wipe_get hj]
/-- the list that is being made is held -/
def hz (w : Wd) (D : Addr) (acc : List V) : Wd := { w with Z := upd w.Z D (.lst acc) }
def del (H : Hp) (D : Addr) : Hp := fun b => if b = D then none else H b
theorem upd_del {H : Hp} {D : Addr} {o : HO} : upd (del H D) D o = upd H D o := by
  funext b
  by_cases hb : b = D
  · subst hb
    rw [upd_same, upd_same]
  · rw [upd_ne hb, upd_ne hb]
    exact if_neg hb
theorem rs_hold {w : Wd} {s : Sto} {H : Hp} {D : Addr} {acc : List V} (r : RS T w s H) (h : H D = none) : RS T (hz w D acc) s (upd H D (.lst acc)) := by
  have gd : w.G D = none := r.g.free h
  refine ⟨fun a o e => ?_, fun a o e => ?_, fun a o e => ?_, r.len, fun i o a e1 e2 e3 => ?_, r.inj⟩
  · rw [upd_ne (ne_of_none (r.g _ _ e) h)]
    exact r.g _ _ e
  · by_cases ha : a = D
    · subst ha
      have e' : upd w.Z a (.lst acc) a = some o := e
      rw [upd_same] at e' ⊢
      exact e'
    · have e' : upd w.Z D (.lst acc) a = some o := e
      rw [upd_ne ha] at e' ⊢
      exact r.z _ _ e'
  · by_cases ha : a = D
    · subst ha
      exact gd
    · have e' : upd w.Z D (.lst acc) a = some o := e
      rw [upd_ne ha] at e'
      exact r.gz _ _ e'
  · obtain ⟨ho, h1, h2, h3, h4⟩ := r.live i o a e1 e2 e3
    have ha : a ≠ D := ne_of_none h1 h
    exact ⟨ho, by rw [upd_ne ha]; exact h1, h2, h3, by show upd w.Z D (.lst acc) a = none; rw [upd_ne ha]; exact h4⟩
theorem rs_unhold {w : Wd} {s : Sto} {H : Hp} {D : Addr} {acc : List V} (r : RS T (hz w D acc) s H) (h : w.Z D = none) : RS T w s (del H D) := by
  have zd : (hz w D acc).Z D = some (.lst acc) := upd_same
  have gd : w.G D = none := r.gz _ _ zd
  refine ⟨fun a o e => ?_, fun a o e => ?_, fun a o e => ?_, r.len, fun i o a e1 e2 e3 => ?_, r.inj⟩
  · have ha : a ≠ D := ne_of_none e gd
    show (if a = D then none else H a) = _
    rw [if_neg ha]
    exact r.g _ _ e
  · have ha : a ≠ D := ne_of_none e h
    show (if a = D then none else H a) = _
    rw [if_neg ha]
    exact r.z _ _ (by show upd w.Z D (.lst acc) a = _; rw [upd_ne ha]; exact e)
  · have ha : a ≠ D := ne_of_none e h
    exact r.gz a o (by show upd w.Z D (.lst acc) a = _; rw [upd_ne ha]; exact e)
  · obtain ⟨ho, h1, h2, h3, h4⟩ := r.live i o a e1 e2 e3
    have ha : a ≠ D := fun z => by
      subst z
      rw [zd] at h4
      cases h4
    refine ⟨ho, ?_, h2, h3, ?_⟩
    · show (if a = D then none else H a) = _
      rw [if_neg ha]
      exact h1
    · have h4' : upd w.Z D (.lst acc) a = none := h4
      rw [upd_ne ha] at h4'
      exact h4'
theorem hz_at {w : Wd} {s : Sto} {H : Hp} {D : Addr} {acc : List V} (r : RS T (hz w D acc) s H) : H D = some (.lst acc) := r.z _ _ upd_same
theorem upd_del_at {H : Hp} {D : Addr} {o : HO} (h : H D = some o) : upd (del H D) D o = H := by
  rw [upd_del]
  funext b
  by_cases hb : b = D
  · subst hb
    rw [upd_same, h]
  · rw [upd_ne hb]
theorem del_at {H : Hp} {D : Addr} : del H D D = none := if_pos rfl
theorem RX.hz {w : Wd} {D : Addr} {acc : List V} {x : Xv} {v : V} (h : RX T w x v) : RX T (hz w D acc) x v := by
  cases x with
  | d x => exact h
  | ref i => exact h
theorem RE.hz {w : Wd} {D : Addr} {acc : List V} {ρ : Env'} {st : L2.St} (h : RE T w ρ st) : RE T (FL.hz w D acc) ρ st := ⟨h.len, fun i v e => by
  obtain ⟨u, k1, k2⟩ := h.at_ i v e
  exact ⟨u, k1, RX.hz k2⟩⟩
def compN (asg : Xv → Env' → Option Env') (t f : FE) (ρ : Env') : List D → Sto → Option (List D × Sto)
  | [], s => some ([], s)
  | x :: xs, s => match asg (.d x) ρ with
    | none => none
    | some r => match t r s with
      | .ok b s1 => match truth b s1 with
        | some true => match f r s1 with
          | .ok (.d y) s2 => match compN asg t f ρ xs s2 with
            | some (ys, s3) => some (y :: ys, s3)
            | none => none
          | _ => none
        | some false => compN asg t f ρ xs s1
        | none => none
      | _ => none
def finL (m : Bool) (acc : List D) : Option (List D × Sto) → Res
  | some (ys, s) => mkL m (acc ++ ys) s
  | none => .stuck
def lcF (m : Bool) (own : List Nat) (asg : Xv → Env' → Option Env') (f t g : FE) : FE := fun ρ s => (f ρ s).bind fun x s1 => match x with
  | .d (.lst xs) => if xs.length ≤ 1000000 then finL m [] (compN asg t g (wipeF ρ own) xs s1) else .stuck
  | _ => .stuck
abbrev W0 : WX := fun _ _ _ _ => False
abbrev PFTs (T : Tx) (X : Cx) (W : WX) (es : List Expr) (f : FE) : Prop := PTs X es (rdT T W f)
def yesF : FE := litF (.bl true)
theorem pts_yes : PFTs T X W [] yesF := ⟨fun pins s σ H Q I h => pts_nil.run pins s σ H Q I (by
  obtain ⟨w, ρ, s0, e, r, b, eb, k⟩ := h
  cases eb
  exact k w H (.refl _) r)⟩
theorem pts_1 {c : Expr} {f : FE} (h : PFT T X W c f) : PFTs T X W [c] f := pts_one h
theorem lc_ok {st : L2.St} {ρ : Env'} {f : FE} {asg : Xv → Env' → Option Env'} {t g : FE} {H : Hp} {Q : VK} {own : List Nat} {ix : List Nat} {m : Bool} (hix : ∀ j ∈ ix, j ∈ own)
    (w : Wd) (s : Sto) (e : RE T w ρ st) (q : RS T w s H) (p : PostE T W st w (lcF m own asg f t g ρ s) Q) : tLc (rdI T W f) (rdG T asg ix) (rdT T W0 t) (rdE T W0 g) own st H Q := by
  refine ⟨w, ρ, s, e, q, ?_⟩
  unfold lcF at p
  revert p
  cases f ρ s with
  | exc x s1 => exact fun p => p
  | stuck => exact fun p => p
  | ok v s1 =>
    intro p
    unfold Res.bind at p
    dsimp only at p
    split at p
    · rename_i xs
      split at p
      · rename_i hxl
        intro w1 J H1 l k r1 D hD
        have zD : w1.Z D = none := r1.z.free hD
        have e1 : RE T w1 ρ st := e.mono l
        refine ⟨fun i m1 H' => ∃ w2 s2 accD acc, Le w1 w2 ∧ RS T (hz w2 D acc) s2 H' ∧ Rs T w2.G accD acc ∧ accD.length ≤ i ∧ i ≤ xs.length ∧ m1 = xs.length - i ∧ PostE T W st w2 (finL m accD (compN asg t g (wipeF ρ own) (xs.drop i) s2)) Q,
          ⟨xs.length, w1, s1, [], [], .refl _, rs_hold r1 hD, by unfold Rs; rfl, Nat.zero_le _, Nat.zero_le _, rfl, PostE.mono l p⟩, ?_⟩
        rintro i m1 H' ⟨w2, s2, accD, acc, l2, r2, ra, hal, il, rfl, p2⟩
        have zD2 : w2.Z D = none := by rw [l2.z]; exact zD
        rcases Nat.lt_or_ge i xs.length with hi | hi
        · refine .inr ?_
          have hx : xs[i]? = some xs[i] := List.getElem?_eq_getElem hi
          obtain ⟨hgo, hy⟩ := k.go i _ (hz w2 D acc) s2 H' hx l2.g r2
          refine ⟨hgo, fun H'' => ∃ w3 s3 accD3 acc3, Le w1 w3 ∧ RS T (hz w3 D acc3) s3 H'' ∧ Rs T w3.G accD3 acc3 ∧ accD3.length ≤ i + 1 ∧ PostE T W st w3 (finL m accD3 (compN asg t g (wipeF ρ own) (xs.drop (i + 1)) s3)) Q, ?_, ?_⟩
          · rintro H'' ⟨w3, s3, accD3, acc3, l3, r3, ra3, hal3, p3⟩
            exact ⟨xs.length - (i + 1), by omega, w3, s3, accD3, acc3, l3, r3, ra3, hal3, hi, rfl, p3⟩
          · intro v H'' hv
            obtain ⟨w3, l3, x3, r3⟩ := hy v H'' hv
            rw [List.drop_eq_getElem_cons hi] at p2
            unfold compN at p2
            split at p2
            · exact p2.elim
            · rename_i r hasg
              refine ⟨w3, _, s2, _, r, x3, ((RE.hz (e1.mono l2)).mono l3).wipe own, r3, hasg, fun w4 st4 H4 l4 e4 r4 hl4 hf4 => ⟨wipe_eq (by rw [hl4, wipe_len]) hf4 hix, w4, r, s2, e4, r4, ?_⟩⟩
              split at p2
              · rename_i b s5 ht
                rw [ht]
                split at p2
                · rename_i htr
                  refine ⟨true, htr, fun w5 H5 l5 r5 => ?_⟩
                  dsimp only
                  rw [if_pos rfl]
                  refine ⟨w5, r, s5, e4.mono l5, r5, ?_⟩
                  split at p2
                  · rename_i y s6 hg
                    rw [hg]
                    intro w6 u H6 l6 x6 r6
                    have l26 : Le (hz w2 D acc) w6 := (l3.trans l4).trans (l5.trans l6)
                    have l7 : Le w2 { w6 with Z := w2.Z } := ⟨l26.g, rfl, l26.io⟩
                    have ew : hz { w6 with Z := w2.Z } D acc = w6 := by
                      have e6 : w6.Z = upd w2.Z D (.lst acc) := l26.z
                      unfold hz
                      cases w6
                      dsimp only at e6 ⊢
                      rw [e6]
                    have r7 : RS T (hz { w6 with Z := w2.Z } D acc) s6 H6 := by rw [ew]; exact r6
                    refine ⟨acc, hz_at r7, ?_, { w6 with Z := w2.Z }, s6, accD ++ [y], acc ++ [u], l2.trans l7, ?_, ?_, ?_, ?_⟩
                    · rw [← ra.length]
                      have : sizeLine = 16777216 := sizeLine_eq
                      omega
                    · have k7 := rs_hold (acc := acc ++ [u]) (rs_unhold r7 zD2) del_at
                      rw [upd_del] at k7
                      exact k7
                    · exact (Rs.mono l7.g ra).append (.one x6)
                    · rw [List.length_append, List.length_singleton]
                      omega
                    · refine PostE.mono l7 ?_
                      revert p2
                      cases compN asg t g (wipeF ρ own) (xs.drop (i + 1)) s6 with
                      | none => exact fun p => p
                      | some z =>
                        obtain ⟨ys, s8⟩ := z
                        intro p2
                        show PostE T W st w2 (mkL m ((accD ++ [y]) ++ ys) s8) Q
                        rw [List.append_assoc]
                        exact p2
                  · exact p2.elim
                · rename_i htr
                  refine ⟨false, htr, fun w5 H5 l5 r5 => ?_⟩
                  dsimp only
                  rw [if_neg Bool.false_ne_true]
                  have l26 : Le (hz w2 D acc) w5 := (l3.trans l4).trans l5
                  have l7 : Le w2 { w5 with Z := w2.Z } := ⟨l26.g, rfl, l26.io⟩
                  have ew : hz { w5 with Z := w2.Z } D acc = w5 := by
                    have e6 : w5.Z = upd w2.Z D (.lst acc) := l26.z
                    unfold hz
                    cases w5
                    dsimp only at e6 ⊢
                    rw [e6]
                  exact ⟨{ w5 with Z := w2.Z }, s5, accD, acc, l2.trans l7, by rw [ew]; exact r5, Rs.mono l7.g ra, by omega, PostE.mono l7 p2⟩
                · exact p2.elim
              · exact p2.elim
        · have hi' : i = xs.length := by omega
          subst hi'
          rw [List.drop_length] at p2
          refine .inl ⟨k.stop (hz w2 D acc) s2 H' l2.g r2, ?_⟩
          have p3 : PostE T W st w2 (mkL m (accD ++ []) s2) Q := p2
          rw [List.append_nil] at p3
          have k3 := mkL_ok p3 (rs_unhold r2 zD2) ra D del_at
          rw [upd_del_at (hz_at r2)] at k3
          exact k3
      · exact p.elim
    · exact p.elim
theorem pf_lc {elt tg iter : Expr} {ifs : List Expr} {scope : Scope} {own : List (Str × Nat)} {pos : Pos} {f t g : FE} {asg : Xv → Env' → Option Env'} {ix : List Nat} (m : Bool) (hc : X.calm = true) (hN : X.N.Nodup) (hi : PFI T X W tg iter f) (ok : BlkOk X.N X.env.scope scope own)
    (hg : ∀ (s : Shared) (H : Hp) (C : Addr) (cl : List (Str × Addr)) (fp : List Addr), PFG T (X.blk s H scope (compEnvC scope cl C X.env) fp) tg asg ix)
    (ht : ∀ (s : Shared) (H : Hp) (C : Addr) (cl : List (Str × Addr)) (fp : List Addr), PFTs T (X.blk s H scope (compEnvC scope cl C X.env) fp) W0 ifs t)
    (he : ∀ (s : Shared) (H : Hp) (C : Addr) (cl : List (Str × Addr)) (fp : List Addr), PF T (X.blk s H scope (compEnvC scope cl C X.env) fp) W0 elt g)
    (hix : ∀ j ∈ ix, j ∈ own.map (·.2) := by decide) (hf : ∀ x, foldedSetIterable iter X.env x = pure x := by exact fun _ => rfl) :
    PF T X W (.ListComp elt [⟨tg, iter, ifs, 0⟩] scope pos) (lcF m (own.map (·.2)) asg f t g) :=
  PE.imp (pe_lc hc hN hi ok hg ht he hf) fun st H Q ⟨w, ρ, s, e, q, p⟩ => lc_ok hix w s e q p
theorem pfs_setLc {i : Nat} {y : Str} {py : Pos} {elt tg iter : Expr} {ifs : List Expr} {scope : Scope} {own : List (Str × Nat)} {pos spos : Pos} {f t g : FE} {asg : Xv → Env' → Option Env'} {ix : List Nat} (m : Bool) (hc : X.calm = true) (hN : X.N.Nodup) (hi : PFI T X W tg iter f) (ok : BlkOk X.N X.env.scope scope own)
    (hg : ∀ (s : Shared) (H : Hp) (C : Addr) (cl : List (Str × Addr)) (fp : List Addr), PFG T (X.blk s H scope (compEnvC scope cl C X.env) fp) tg asg ix)
    (ht : ∀ (s : Shared) (H : Hp) (C : Addr) (cl : List (Str × Addr)) (fp : List Addr), PFTs T (X.blk s H scope (compEnvC scope cl C X.env) fp) W0 ifs t)
    (he : ∀ (s : Shared) (H : Hp) (C : Addr) (cl : List (Str × Addr)) (fp : List Addr), PF T (X.blk s H scope (compEnvC scope cl C X.env) fp) W0 elt g)
    (hsw : swapsWith (.ListComp elt [⟨tg, iter, ifs, 0⟩] scope pos) (some (.Name y py)) spos.line X.env = pure true)
    (hy : X.N[i]? = some y := by rfl) (hyl : X.env.scope.names.lookup y = some .local := by rfl)
    (hix : ∀ j ∈ ix, j ∈ own.map (·.2) := by decide) (hf : ∀ x, foldedSetIterable iter X.env x = pure x := by exact fun _ => rfl) :
    PFS T X W (.Assign [.Name y py] (.ListComp elt [⟨tg, iter, ifs, 0⟩] scope pos) spos) (setS i (lcF m (own.map (·.2)) asg f t g)) :=
  PS.imp (ps_setLc hc hN hy hyl hsw hi ok hg ht he hf) fun E st H ⟨w, ρ, s, e, q, p⟩ => by
    refine lc_ok (m := m) hix w s e q ?_
    unfold setS at p
    revert p
    cases lcF m (own.map (·.2)) asg f t g ρ s with
    | exc x s1 => exact fun p w1 c d H1 l x y => p w1 c d st H1 l x (e.mono l) y
    | stuck => exact fun p => p
    | ok v s1 => exact fun p w1 u H1 l x y => p w1 _ H1 l ((e.mono l).set i x) y
end
end FL

set_option Elab.async false
set_option linter.all false
set_option maxRecDepth 100000
set_option maxHeartbeats 4000000
namespace FL
open PySem PySem.Spec PyProof.Rows L2
/-! ### zip(.., strict=True) -/
def ItK (k : Bool) (h : Heap) (a l : Addr) (i : Nat) : Prop := match k with | true => h.IsListIter a l i | false => h.IsTupleIter a l i
def SqK (k : Bool) (h : Heap) (a : Addr) (xs : Array Value) : Prop := match k with | true => h.IsList a xs | false => h.IsTuple a xs
@[reducible] def IsZs (h : Heap) (z TI TO : Addr) (f0 : Value) : Prop := h.get? z = some ⟨.type "zip", none, .fields #[f0, .bool false, .bool true, .ref TI, .ref TO], #[]⟩
theorem ItK.ext {k : Bool} {h h' : Heap} {a b l : Addr} {i : Nat} (e : ItK k h a l i) (q : Heap.ExtBut b h h') (n : a ≠ b) : ItK k h' a l i := by
  cases k with
  | true => exact Heap.IsListIter.extBut e q n
  | false => exact Heap.IsTupleIter.extBut e q n
theorem SqK.ext {k : Bool} {h h' : Heap} {a b : Addr} {xs : Array Value} (e : SqK k h a xs) (q : Heap.ExtBut b h h') (n : a ≠ b) : SqK k h' a xs := by
  cases k with
  | true => exact Heap.IsList.extBut e q n
  | false => exact Heap.IsTuple.extBut e q n
section
variable {prog : Program} {w : World} {A : Around} {E : Value → Shared → Prop} {s : Shared}
theorem nx_item {k : Bool} {it l : Addr} {i : Nat} {xs : Array Value} {x : Value} {Q : Option Value → Shared → Prop} (h1 : ItK k s.heap it l i) (h2 : SqK k s.heap l xs) (hx : xs[i]? = some x)
    (hq : ∀ h' : Heap, ItK k h' it l (i + 1) → Heap.SameBut it s.heap h' → Q (some x) { heap := h', gens := s.gens, drawn := s.drawn, toks := s.toks, os := s.os }) : wpAny (model prog w) A (Builtin.SmallTypes.nextOrEnd (.ref it)) Q E s := by
  unfold Builtin.SmallTypes.nextOrEnd
  refine wpAny_bind (wpAny_attempt ?_)
  cases k with
  | true => exact wpAny_nextOf_list_item h1 h2 hx fun h' a b => wpAny_pure (hq h' a b)
  | false => exact RZ.nextOf_tuple_item h1 h2 hx fun h' a b => wpAny_pure (hq h' a b)
theorem nx_end {k : Bool} {it l : Addr} {i : Nat} {xs : Array Value} {Q : Option Value → Shared → Prop} (hh : A.handled = none) (h1 : ItK k s.heap it l i) (h2 : SqK k s.heap l xs) (hx : xs[i]? = none)
    (hq : ∀ h' : Heap, Heap.ExtBut it s.heap h' → Q none { heap := h', gens := s.gens, drawn := s.drawn, toks := s.toks, os := s.os }) : wpAny (model prog w) A (Builtin.SmallTypes.nextOrEnd (.ref it)) Q E s := by
  unfold Builtin.SmallTypes.nextOrEnd
  refine wpAny_bind (wpAny_attempt ?_)
  cases k with
  | true => exact wpAny_nextOf_list_end hh h1 h2 hx fun h' e a ⟨o, ho, hc⟩ => wpAny_bind (wpAny_isInstance ⟨o, ho, hc⟩ isSubtype_stop (wpAny_pure (hq h' a)))
  | false => exact RZ.nextOf_tuple_end hh h1 h2 hx fun h' e a ⟨o, ho, hc⟩ => wpAny_bind (wpAny_isInstance ⟨o, ho, hc⟩ isSubtype_stop (wpAny_pure (hq h' a)))
theorem stop_it {α : Type} {Q : α → Shared → Prop} (hh : A.handled = none)
    (hE : ∀ (h' : Heap) (e : Addr), (∀ (c : Addr) (o : Obj), s.heap.get? c = some o → h'.get? c = some o) → (∃ o, h'.get? e = some o ∧ o.cls = Value.type "StopIteration") → E (.ref e) { heap := h', gens := s.gens, drawn := s.drawn, toks := s.toks, os := s.os }) : wpAny (model prog w) A (Builtin.SmallTypes.stopIteration : Sem α) Q E s := by
  unfold Builtin.SmallTypes.stopIteration
  refine wpAny_bind ?_
  unfold newExc
  refine wpAny_bind (wpAny_newObj_type ?_)
  refine wpAny_bind (wpAny_of_eq (Eq.refl (firstArgMember (Value.type "StopIteration") [])) (wpAny_newObj_type ?_))
  unfold raiseNew
  refine wpAny_bind (wpAny_handled ?_)
  rw [hh]
  refine wpAny_throw (hE _ _ (fun c o q => Heap.get?_push_of_some _ (Heap.get?_push_of_some _ q)) ⟨_, Heap.get?_push_size _ rfl, rfl⟩)
theorem zs_next_item {ka kb : Bool} {z TI TO i1 i2 l1 l2 : Addr} {k1 k2 : Nat} {xs ys : Array Value} {x y a b : Value} {Q : Value → Shared → Prop} (D : ZipApart z TI TO i1 i2 l1 l2) (hz : IsZs s.heap z TI TO .none) (hTI : IsPair s.heap TI (.ref i1) (.ref i2)) (hTO : IsPair s.heap TO a b)
    (h1 : ItK ka s.heap i1 l1 k1) (h2 : ItK kb s.heap i2 l2 k2) (hl1 : SqK ka s.heap l1 xs) (hl2 : SqK kb s.heap l2 ys) (hx : xs[k1]? = some x) (hy : ys[k2]? = some y)
    (hQ : ∀ h' : Heap, IsZs h' z TI TO (rawInt (s.heap.objs.size : Int)) → IsPair h' TO x y → ItK ka h' i1 l1 (k1 + 1) → ItK kb h' i2 l2 (k2 + 1) → IsPair h' s.heap.objs.size x y → h'.objs.size = s.heap.objs.size + 1 →
      (∀ (c : Addr) (o : Obj), c ≠ z → c ≠ TO → c ≠ i1 → c ≠ i2 → s.heap.get? c = some o → h'.get? c = some o) → Q (.ref s.heap.objs.size) { heap := h', gens := s.gens, drawn := s.drawn, toks := s.toks, os := s.os }) :
    wpAny (model prog w) A (Builtin.«zip.__next__» ⟨[.ref z], []⟩) (fun fin s' => ∃ v, fin = Fin.done (.ret v) ∧ Q v s') E s := by
  unfold Builtin.«zip.__next__»
  refine wpAny_bind (show wpAny _ _ (pure (Value.ref z, ([] : List Value))) _ _ _ from wpAny_pure ?_)
  refine wpAny_bind (wpAny_field (x := .bool true) hz rfl rfl ?_)
  refine wpAny_bind (wpAny_field (x := .ref TI) hz rfl rfl ?_)
  refine wpAny_bind (wpAny_seqItems hTI rfl ?_)
  dsimp only
  rw [if_neg (show ¬ (#[Value.ref i1, Value.ref i2].isEmpty = true) from fun q => nomatch q)]
  refine wpAny_bind ?_
  unfold Builtin.SmallTypes.ownedTupleIsFree
  refine wpAny_bind (wpAny_field (x := .none) hz rfl rfl (wpAny_pure ?_))
  rw [if_pos rfl]
  refine wpAny_bind (wpAny_rule ?_)
  refine wpAny_bind (wpAny_field (x := .ref TO) hz rfl rfl ?_)
  dsimp only
  refine wpAny_bind (wpAny_setField_rec hz (show 0 < 5 by decide) fun h₁ hz₁ hs₁ => ?_)
  have hz₁' : h₁.get? z = some ⟨.type "zip", none, .fields #[.ellipsis, .bool false, .bool true, .ref TI, .ref TO], #[]⟩ := hz₁
  refine wpAny_bind ?_
  show wpAny _ _ (forIn [(Value.ref i1, 0), (Value.ref i2, 1)] _ _) _ _ _
  simp only [List.forIn_cons, List.forIn_nil]
  have g1 := h1.ext hs₁.extBut D.i1z
  refine wpAny_bind (wpAny_bind (wpAny_onRaise (show wpAny _ _ (Builtin.SmallTypes.nextOrEnd (.ref i1)) _ _ _ from nx_item (s := { heap := h₁, gens := s.gens, drawn := s.drawn, toks := s.toks, os := s.os }) g1 (hl1.ext hs₁.extBut D.l1z) hx fun h₂ h1₂ hs₂ => ?_)))
  have hTO₂ : IsPair h₂ TO a b := hs₂.extBut TO _ D.TOi1 (hs₁.extBut TO _ D.TOz hTO)
  dsimp only
  refine wpAny_bind (wpAny_seqItems hTO₂ rfl ?_)
  refine wpAny_bind (wpAny_updateSeq_pair hTO₂ fun h₃ hTO₃ hs₃ => ?_)
  refine wpAny_bind (wpAny_letGo (wpAny_pure ?_))
  have hTO₃' : IsPair h₃ TO x b := hTO₃
  have g2 : ItK kb h₃ i2 l2 k2 := ((h2.ext hs₁.extBut D.i2z).ext hs₂.extBut D.i12.symm).ext hs₃.extBut D.TOi2.symm
  have q2 : SqK kb h₃ l2 ys := ((hl2.ext hs₁.extBut D.l2z).ext hs₂.extBut D.l2i1).ext hs₃.extBut D.l2TO
  refine wpAny_bind (wpAny_bind (wpAny_onRaise (show wpAny _ _ (Builtin.SmallTypes.nextOrEnd (.ref i2)) _ _ _ from nx_item (s := { heap := h₃, gens := s.gens, drawn := s.drawn, toks := s.toks, os := s.os }) g2 q2 hy fun h₄ h2₄ hs₄ => ?_)))
  have hTO₄ : IsPair h₄ TO x b := hs₄.extBut TO _ D.TOi2 hTO₃'
  dsimp only
  refine wpAny_bind (wpAny_seqItems hTO₄ rfl ?_)
  refine wpAny_bind (wpAny_updateSeq_pair hTO₄ fun h₅ hTO₅ hs₅ => ?_)
  refine wpAny_bind (wpAny_letGo (wpAny_pure ?_))
  have hTO₅' : IsPair h₅ TO x y := hTO₅
  refine wpAny_pure ?_
  dsimp only
  refine wpAny_bind (wpAny_seqItems hTO₅' rfl ?_)
  dsimp only
  refine wpAny_bind (wpAny_newTuple ?_ (show ([x, y] : List Value).length ≤ sizeLine by rw [sizeLine_eq]; exact (by decide : 2 ≤ 16777216)))
  have e5 : h₅.objs.size = s.heap.objs.size := by rw [hs₅.1, hs₄.1, hs₃.1, hs₂.1]; exact hs₁.1
  have hz₅ : h₅.get? z = some ⟨.type "zip", none, .fields #[.ellipsis, .bool false, .bool true, .ref TI, .ref TO], #[]⟩ := hs₅.extBut z _ D.TOz.symm (hs₄.extBut z _ D.i2z.symm (hs₃.extBut z _ D.TOz.symm (hs₂.extBut z _ D.i1z.symm hz₁')))
  have lt5 : ∀ {c : Addr} {o : Obj}, h₅.get? c = some o → c ≠ h₅.objs.size := fun q => Nat.ne_of_lt (Heap.lt_size q)
  unfold Builtin.SmallTypes.ownedTupleHandOut
  dsimp only
  have hz₆ := Heap.get?_push_of_some (h := h₅) (⟨.type "tuple", none, .seq [x, y].toArray, #[]⟩ : Obj) hz₅
  refine wpAny_bind (wpAny_bind (wpAny_setField_rec hz₆ (show 0 < 5 by decide) fun h₇ hz₇ hs₇ => ?_))
  refine wpAny_setField_rec hz₇ (show 1 < 5 by decide) fun h₈ hz₈ hs₈ => ?_
  have hz₈' : IsZs h₈ z TI TO (rawInt (h₅.objs.size : Int)) := hz₈
  have up : ∀ {c : Addr} {o : Obj}, c ≠ z → h₅.get? c = some o → h₈.get? c = some o := fun n q => hs₈.extBut _ _ n (hs₇.extBut _ _ n (Heap.get?_push_of_some _ q))
  have nz : h₅.objs.size ≠ z := fun q => lt5 hz₅ q.symm
  have h1₅ : ItK ka h₅ i1 l1 (k1 + 1) := ((h1₂.ext hs₃.extBut D.TOi1.symm).ext hs₄.extBut D.i12).ext hs₅.extBut D.TOi1.symm
  have h2₅ : ItK kb h₅ i2 l2 (k2 + 1) := h2₄.ext hs₅.extBut D.TOi2.symm
  have ex8 : Heap.ExtBut z h₅ h₈ := fun c o n q => up n q
  refine wpAny_pure ⟨_, rfl, ?_⟩
  have key := hQ h₈ (by rw [← e5]; exact hz₈') (up D.TOz hTO₅') (h1₅.ext ex8 D.i1z) (h2₅.ext ex8 D.i2z) (by
      rw [← e5]
      exact hs₈.extBut _ _ nz (hs₇.extBut _ _ nz (Heap.get?_push_size h₅ rfl))) (by
      rw [hs₈.1, hs₇.1, Heap.size_push, e5]) (fun c o n1 n2 n3 n4 q => up n1 (hs₅.extBut _ _ n2 (hs₄.extBut _ _ n4 (hs₃.extBut _ _ n2 (hs₂.extBut _ _ n3 (hs₁.extBut _ _ n1 q))))))
  rw [← e5] at key
  exact key
theorem zs_next_end {ka kb : Bool} {z TI TO i1 i2 l1 l2 : Addr} {k1 k2 : Nat} {xs ys : Array Value} {Q : PySem.Fin → Shared → Prop} (hh : A.handled = none) (D : ZipApart z TI TO i1 i2 l1 l2) (hz : IsZs s.heap z TI TO .none) (hTI : IsPair s.heap TI (.ref i1) (.ref i2))
    (h1 : ItK ka s.heap i1 l1 k1) (h2 : ItK kb s.heap i2 l2 k2) (hl1 : SqK ka s.heap l1 xs) (hl2 : SqK kb s.heap l2 ys) (hx : xs[k1]? = none) (hy : ys[k2]? = none)
    (hE : ∀ (h' : Heap) (e : Addr), (∀ (c : Addr) (o : Obj), c ≠ z → c ≠ TO → c ≠ i1 → c ≠ i2 → s.heap.get? c = some o → h'.get? c = some o) → (∃ o, h'.get? e = some o ∧ o.cls = Value.type "StopIteration") → E (.ref e) { heap := h', gens := s.gens, drawn := s.drawn, toks := s.toks, os := s.os }) :
    wpAny (model prog w) A (Builtin.«zip.__next__» ⟨[.ref z], []⟩) Q E s := by
  unfold Builtin.«zip.__next__»
  refine wpAny_bind (show wpAny _ _ (pure (Value.ref z, ([] : List Value))) _ _ _ from wpAny_pure ?_)
  refine wpAny_bind (wpAny_field (x := .bool true) hz rfl rfl ?_)
  refine wpAny_bind (wpAny_field (x := .ref TI) hz rfl rfl ?_)
  refine wpAny_bind (wpAny_seqItems hTI rfl ?_)
  dsimp only
  rw [if_neg (show ¬ (#[Value.ref i1, Value.ref i2].isEmpty = true) from fun q => nomatch q)]
  refine wpAny_bind ?_
  unfold Builtin.SmallTypes.ownedTupleIsFree
  refine wpAny_bind (wpAny_field (x := .none) hz rfl rfl (wpAny_pure ?_))
  rw [if_pos rfl]
  refine wpAny_bind (wpAny_rule ?_)
  refine wpAny_bind (wpAny_field (x := .ref TO) hz rfl rfl ?_)
  dsimp only
  refine wpAny_bind (wpAny_setField_rec hz (show 0 < 5 by decide) fun h₁ hz₁ hs₁ => ?_)
  have hz₁' : h₁.get? z = some ⟨.type "zip", none, .fields #[.ellipsis, .bool false, .bool true, .ref TI, .ref TO], #[]⟩ := hz₁
  refine wpAny_bind ?_
  show wpAny _ _ (forIn [(Value.ref i1, 0), (Value.ref i2, 1)] _ _) _ _ _
  simp only [List.forIn_cons, List.forIn_nil]
  have g1 := h1.ext hs₁.extBut D.i1z
  refine wpAny_bind (wpAny_bind (wpAny_onRaise (show wpAny _ _ (Builtin.SmallTypes.nextOrEnd (.ref i1)) _ _ _ from nx_end (s := { heap := h₁, gens := s.gens, drawn := s.drawn, toks := s.toks, os := s.os }) hh g1 (hl1.ext hs₁.extBut D.l1z) hx fun h₂ hs₂ => ?_)))
  dsimp only
  have hz₂ := hs₂ z _ D.i1z.symm hz₁'
  refine wpAny_bind (wpAny_setField_rec hz₂ (show 0 < 5 by decide) fun h₃ hz₃ hs₃ => ?_)
  have g2 : ItK kb h₃ i2 l2 k2 := ((h2.ext hs₁.extBut D.i2z).ext hs₂ D.i12.symm).ext hs₃.extBut D.i2z
  have q2 : SqK kb h₃ l2 ys := ((hl2.ext hs₁.extBut D.l2z).ext hs₂ D.l2i1).ext hs₃.extBut D.l2z
  refine wpAny_bind ?_
  show wpAny _ _ (Bind.bind (forIn [(Value.ref i2, 1)] PUnit.unit _) _) _ _ _
  refine wpAny_bind ?_
  simp only [List.forIn_cons, List.forIn_nil]
  refine wpAny_bind (wpAny_bind (nx_end (s := { heap := h₃, gens := s.gens, drawn := s.drawn, toks := s.toks, os := s.os }) hh g2 q2 hy fun h₄ hs₄ => ?_))
  rw [if_neg (show ¬ ((none : Option Value).isSome = true) from fun q => nomatch q)]
  refine wpAny_pure (wpAny_pure ?_)
  refine wpAny_bind (wpAny_rule (stop_it hh fun h' e k he => hE h' e (fun c o n1 n2 n3 n4 q => k _ _ (hs₄ _ _ n4 (hs₃.extBut _ _ n1 (hs₂ _ _ n3 (hs₁.extBut _ _ n1 q))))) he))
theorem pyNext_zs_item {ka kb : Bool} {z TI TO i1 i2 l1 l2 : Addr} {k1 k2 : Nat} {xs ys : Array Value} {x y a b : Value} {Q : Option Value → Shared → Prop} (D : ZipApart z TI TO i1 i2 l1 l2) (hz : IsZs s.heap z TI TO .none) (hTI : IsPair s.heap TI (.ref i1) (.ref i2)) (hTO : IsPair s.heap TO a b)
    (h1 : ItK ka s.heap i1 l1 k1) (h2 : ItK kb s.heap i2 l2 k2) (hl1 : SqK ka s.heap l1 xs) (hl2 : SqK kb s.heap l2 ys) (hx : xs[k1]? = some x) (hy : ys[k2]? = some y)
    (hQ : ∀ h' : Heap, IsZs h' z TI TO (rawInt (s.heap.objs.size : Int)) → IsPair h' TO x y → ItK ka h' i1 l1 (k1 + 1) → ItK kb h' i2 l2 (k2 + 1) → IsPair h' s.heap.objs.size x y → h'.objs.size = s.heap.objs.size + 1 →
      (∀ (c : Addr) (o : Obj), c ≠ z → c ≠ TO → c ≠ i1 → c ≠ i2 → s.heap.get? c = some o → h'.get? c = some o) → Q (some (.ref s.heap.objs.size)) { heap := h', gens := s.gens, drawn := s.drawn, toks := s.toks, os := s.os }) :
    wpAny (model prog w) A (pyNext (.ref z)) Q E s := by
  have hT : s.TypeIs (.ref z) "zip" := ⟨_, hz, rfl⟩
  unfold pyNext
  exact wpAny_bind (wpAny_attempt (wpAny_callSpecial?_slot hT F.slot_zip_next (wpAny_call_entry F.slot_zip_next hT F.entry_zip_next (zs_next_item D hz hTI hTO h1 h2 hl1 hl2 hx hy fun h' a1 a2 a3 a4 a5 a6 a7 => wpAny_pure (hQ h' a1 a2 a3 a4 a5 a6 a7)) (F.args_zip_next_1 (.ref z)))))
theorem pyNext_zs_end {ka kb : Bool} {z TI TO i1 i2 l1 l2 : Addr} {k1 k2 : Nat} {xs ys : Array Value} {Q : Option Value → Shared → Prop} (hh : A.handled = none) (D : ZipApart z TI TO i1 i2 l1 l2) (hz : IsZs s.heap z TI TO .none) (hTI : IsPair s.heap TI (.ref i1) (.ref i2))
    (h1 : ItK ka s.heap i1 l1 k1) (h2 : ItK kb s.heap i2 l2 k2) (hl1 : SqK ka s.heap l1 xs) (hl2 : SqK kb s.heap l2 ys) (hx : xs[k1]? = none) (hy : ys[k2]? = none)
    (hQ : ∀ h' : Heap, (∀ (c : Addr) (o : Obj), c ≠ z → c ≠ TO → c ≠ i1 → c ≠ i2 → s.heap.get? c = some o → h'.get? c = some o) → Q none { heap := h', gens := s.gens, drawn := s.drawn, toks := s.toks, os := s.os }) :
    wpAny (model prog w) A (pyNext (.ref z)) Q E s := by
  have hT : s.TypeIs (.ref z) "zip" := ⟨_, hz, rfl⟩
  unfold pyNext
  exact wpAny_bind (wpAny_attempt (wpAny_callSpecial?_slot hT F.slot_zip_next (wpAny_call_entry F.slot_zip_next hT F.entry_zip_next (zs_next_end hh D hz hTI h1 h2 hl1 hl2 hx hy fun h' e hk ⟨o, ho, hc⟩ =>
    wpAny_bind (wpAny_isInstance ⟨o, ho, hc⟩ isSubtype_stop (wpAny_pure (hQ h' hk)))) (F.args_zip_next_1 (.ref z)))))
end
end FL

set_option Elab.async false
set_option linter.all false
set_option maxRecDepth 100000
set_option maxHeartbeats 4000000
namespace FL
open PySem PySem.Spec PyProof.Rows L2
section
variable {prog : Program} {w : World} {A : Around} {E : Value → Shared → Prop} {s : Shared}
def itO (k : Bool) (l : Addr) : Obj := match k with
  | true => ⟨.type "list_iterator", none, .fields #[.ref l, .int 0 0], #[]⟩
  | false => ⟨.type "tuple_iterator", none, .fields #[.ref l, .int 0 0], #[]⟩
theorem iter_k {k : Bool} {l : Addr} {xs : Array Value} {Q : Value → Shared → Prop} (h : SqK k s.heap l xs) (hq : Q (.ref s.heap.objs.size) { heap := s.heap.push (itO k l), gens := s.gens, drawn := s.drawn, toks := s.toks, os := s.os }) : wpAny (model prog w) A (pyIter (.ref l)) Q E s := by
  cases k with
  | true => exact wpAny_pyIter_list h hq
  | false => exact wpAny_pyIter_tuple h hq
theorem SqK.push {k : Bool} {h : Heap} {l : Addr} {xs : Array Value} (e : SqK k h l xs) (o : Obj) : SqK k (h.push o) l xs := by
  cases k with
  | true => exact Heap.IsList.push e o
  | false =>
    obtain ⟨u, e1, e2⟩ := (show h.IsTuple l xs from e)
    exact ⟨u, Heap.get?_push_of_some _ e1, e2⟩
abbrev zH1 (h : Heap) (ka : Bool) (l1 : Addr) : Heap := h.push (itO ka l1)
abbrev zH2 (h : Heap) (ka kb : Bool) (l1 l2 : Addr) : Heap := (zH1 h ka l1).push (itO kb l2)
abbrev zH3 (h : Heap) (ka kb : Bool) (l1 l2 : Addr) : Heap := (zH2 h ka kb l1 l2).push ⟨.type "tuple", none, .seq #[.ref h.objs.size, .ref (zH1 h ka l1).objs.size], #[]⟩
abbrev zH4 (h : Heap) (ka kb : Bool) (l1 l2 : Addr) : Heap := (zH3 h ka kb l1 l2).push ⟨.type "tuple", none, .seq #[.none, .none], #[]⟩
abbrev zH5 (h : Heap) (ka kb : Bool) (l1 l2 : Addr) : Heap := (zH4 h ka kb l1 l2).push ⟨.type "zip", none, .fields #[.none, .bool false, .bool true, .ref (zH2 h ka kb l1 l2).objs.size, .ref (zH3 h ka kb l1 l2).objs.size], #[]⟩
abbrev kwS : List (Str × Value) := [("strict", .bool true)]
theorem zs_new {ka kb : Bool} {l1 l2 : Addr} {xs ys : Array Value} {Q : Value → Shared → Prop} (hl1 : SqK ka s.heap l1 xs) (hl2 : SqK kb s.heap l2 ys)
    (hq : Q (.ref (zH4 s.heap ka kb l1 l2).objs.size) { heap := zH5 s.heap ka kb l1 l2, gens := s.gens, drawn := s.drawn, toks := s.toks, os := s.os }) :
    wpAny (model prog w) A (Builtin.«zip.__new__» ⟨[.type "zip", .ref l1, .ref l2], kwS⟩) (fun fin s' => ∃ v, fin = Fin.done (.ret v) ∧ Q v s') E s := by
  unfold Builtin.«zip.__new__»
  refine wpAny_bind ?_
  unfold Builtin.SmallTypes.newClass
  dsimp only
  refine wpAny_bind (show wpAny _ _ (pure true) _ _ _ from wpAny_pure ?_)
  refine wpAny_ite_false (by rfl) ?_
  refine wpAny_bind (wpAny_of_eq sub_zip ?_)
  refine wpAny_ite_false (by rfl) (wpAny_pure ?_)
  dsimp only
  refine wpAny_ite_false (by rfl) ?_
  refine wpAny_ite_false (by rfl) ?_
  refine wpAny_bind (show wpAny _ _ (pure true) _ _ _ from wpAny_pure ?_)
  refine wpAny_bind ?_
  unfold Builtin.SmallTypes.iterAll
  simp only [List.forIn_cons, List.forIn_nil]
  refine wpAny_bind (wpAny_bind (wpAny_bind (wpAny_holding (iter_k hl1 (wpAny_pure ?_)))))
  dsimp only
  refine wpAny_bind (wpAny_bind (wpAny_holding (iter_k (s := { heap := s.heap.push (itO ka l1), gens := s.gens, drawn := s.drawn, toks := s.toks, os := s.os }) (hl2.push _) (wpAny_pure ?_))))
  dsimp only
  refine wpAny_pure (wpAny_pure ?_)
  refine wpAny_bind (wpAny_newTuple ?_ (show ([_, _] : List Value).length ≤ sizeLine by rw [sizeLine_eq]; exact (by decide : 2 ≤ 16777216)))
  refine wpAny_bind (wpAny_newTuple ?_ (show ([_, _] : List Value).length ≤ sizeLine by rw [sizeLine_eq]; exact (by decide : 2 ≤ 16777216)))
  refine wpAny_bind ?_
  unfold Builtin.SmallTypes.newRecord
  dsimp only
  refine wpAny_newObj_type (wpAny_pure ⟨_, rfl, hq⟩) ?_
  show 5 ≤ sizeLine + 2
  rw [sizeLine_eq]
  decide
theorem argsI (o : Value) (l1 l2 : Addr) : argsOk "object.__init__" ⟨[o, .ref l1, .ref l2], kwS⟩ := by kernel_rfl
theorem zs_init {o : Value} {l1 l2 : Addr} {Q : PySem.Fin → Shared → Prop} (h : s.TypeIs o "zip") (hq : Q (.done (.ret .none)) s) : wpAny (model prog w) A (Builtin.«object.__init__» ⟨[o, .ref l1, .ref l2], kwS⟩) Q E s := by
  unfold Builtin.«object.__init__»
  dsimp only
  rw [if_pos (by rfl)]
  refine wpAny_bind (wpAny_typeOf h ?_)
  refine wpAny_bind (wpAny_of_eq F.called_zip.init.lookup ?_)
  refine wpAny_bind (wpAny_of_eq F.called_zip.made ?_)
  rw [if_neg (by decide), if_neg (by decide)]
  exact wpAny_pure hq
theorem call_zs {ka kb : Bool} {l1 l2 : Addr} {xs ys : Array Value} {Q : Value → Shared → Prop} (hl1 : SqK ka s.heap l1 xs) (hl2 : SqK kb s.heap l2 ys)
    (hq : Q (.ref (zH4 s.heap ka kb l1 l2).objs.size) { heap := zH5 s.heap ka kb l1 l2, gens := s.gens, drawn := s.drawn, toks := s.toks, os := s.os }) : wpAny (model prog w) A (call (.type "zip") [.ref l1, .ref l2] kwS) Q E s := by
  obtain ⟨c, tl, hmro⟩ := F.called_zip.mro
  have hT : ({ heap := zH5 s.heap ka kb l1 l2, gens := s.gens, drawn := s.drawn, toks := s.toks, os := s.os } : Shared).TypeIs (.ref (zH4 s.heap ka kb l1 l2).objs.size) "zip" := ⟨_, Heap.get?_push_size _ rfl, rfl⟩
  refine wpAny_call (codeAny_of_tree ?_)
  refine wpAny_pure ⟨Code.quiet_builtin ⟨.type "zip" :: [.ref l1, .ref l2], kwS⟩ (by decide +kernel), codeAny_builtin F.entry_type_call ?_⟩
  rw [Around.under_plain (weight_type_call_type "zip" [.ref l1, .ref l2] kwS) (units_type_call_type "zip" [.ref l1, .ref l2] kwS)]
  unfold Builtin.«type.__call__»
  dsimp only
  refine wpAny_ite_false (by rfl) ?_
  refine wpAny_ite_false (by decide +kernel) ?_
  refine wpAny_bind (wpAny_of_eq (show checkTypeCall "zip" ⟨[.ref l1, .ref l2], kwS⟩ = pure () by first | rfl | kernel_rfl) ?_)
  refine wpAny_bind (wpAny_of_eq hmro ?_)
  refine wpAny_ite_false (by rfl) ?_
  refine wpAny_bind (wpAny_of_eq F.called_zip.made ?_)
  refine wpAny_bind (wpAny_pure ?_)
  refine wpAny_bind (wpAny_holding (wpAny_call (codeAny_call_builtin F.called_zip.plain F.entry_zip_new ?_)))
  refine wpAny_of_eq (show checkBuiltinCall "zip.__new__" ⟨[.type "zip", .ref l1, .ref l2], kwS⟩ = pure () by first | rfl | with_unfolding_all rfl | kernel_rfl) ?_
  refine wpAny_mono (zs_new (Q := fun v s' => v = .ref (zH4 s.heap ka kb l1 l2).objs.size ∧ s' = { heap := zH5 s.heap ka kb l1 l2, gens := s.gens, drawn := s.drawn, toks := s.toks, os := s.os }) hl1 hl2 ⟨rfl, rfl⟩) ?_ (fun _ _ h => h)
  rintro fin s' ⟨v, rfl, rfl, rfl⟩
  show wpAny _ _ (Bind.bind (isInstance _ _) _) _ _ _
  refine wpAny_bind (wpAny_isInstance hT sub_zip ?_)
  refine wpAny_ite_false (by rfl) ?_
  refine wpAny_bind (wpAny_holding (wpAny_callSpecial?_slot hT F.called_zip.init ?_))
  refine wpAny_call (codeAny_call_builtin (by decide +kernel) F.entry_object_init (F.called_zip.init.check _ _ _ _ _ _ _ _ hT (argsI _ _ _) (zs_init (A := A.in1.in1) hT ?_)))
  dsimp only
  refine wpAny_ite_false (by rfl) ?_
  exact wpAny_pure hq
end
end FL

set_option Elab.async false
set_option linter.all false
set_option maxRecDepth 100000
set_option maxHeartbeats 400000
namespace FL
open PySem PySem.Spec PyProof.Rows L2
theorem callWith_typeK {M : Model} {A : Around} {E : Value → Shared → Prop} {s : Shared} {pos : Pos} {T : String} {args : List (Bool × Sem Value)} {kws : List (Option Str × Sem Value)} {Q : Value → Shared → Prop} (hp : args.any (·.1) = false) (hk : kws.any (·.1.isNone) = false)
    (h : wpAny M A (evalArgs (.type T) true args kws) (fun a s₁ => wpAny M A (call (.type T) a.pos a.kw) Q E s₁) E s) : wpAny M A (callWith pos (.type T) [] args kws) Q E s := by
  unfold callWith
  refine wpAny_bind (wpAny_holding (wpAny_mono h (fun a s₁ h₁ => wpAny_bind (wpAny_standAt ?_)) fun _ _ h => h))
  rw [hp, hk]
  refine wpAny_bind (show wpAny _ _ (pure _) _ _ _ from wpAny_pure ?_)
  exact wpAny_bind (wpAny_mono h₁ (fun r s₂ hr => wpAny_bind (wpAny_holding (wpAny_point (wpAny_pure hr)))) fun _ _ h => h)
section
variable {prog : Program} {w : World} {A : Around} {E : Value → Shared → Prop} {s : Shared}
theorem letGo_zs {elts : List Expr} {k : Nat} {pos : Pos} {z TI TO T : Addr} {Q : Unit → Shared → Prop} (hz : IsZs s.heap z TI TO (rawInt (T : Int)))
    (hQ : ∀ h' : Heap, IsZs h' z TI TO .none → Heap.SameBut z s.heap h' → Q () { heap := h', gens := s.gens, drawn := s.drawn, toks := s.toks, os := s.os }) : wpAny (model prog w) A (letOwnedTupleGo (.Tuple elts k pos) (.ref z) (.ref T)) Q E s := by
  unfold letOwnedTupleGo
  refine wpAny_bind (wpAny_load hz ?_)
  dsimp only
  rw [if_pos (by simp)]
  exact wpAny_bind (wpAny_rule (wpAny_setField_rec hz (show 0 < 5 by decide) fun h' a b => hQ h' a b))
theorem iter_zs {z TI TO : Addr} {f0 : Value} {Q : Value → Shared → Prop} (hz : IsZs s.heap z TI TO f0) (h : Q (.ref z) s) : wpAny (model prog w) A (pyIter (.ref z)) Q E s :=
  have hT : s.TypeIs (.ref z) "zip" := ⟨_, hz, rfl⟩
  wpAny_pyIter_slot hT F.slot_zip_iter (wpAny_call_entry F.slot_zip_iter hT F.entry_zip_iter (wpAny_pure ⟨_, rfl, "zip", _, hT, F.slot_zip_next.lookup, h⟩) (F.args_zip_iter_1 (.ref z)))
end
def SqV (k : Bool) (K : PySem.W.Frag) (H : Hp) (a : Addr) (xs : List V) : Prop := match k with | true => SqL K H a xs | false => SqT K H a xs
def Itzs (K : PySem.W.Frag) (ka kb : Bool) (a b : Addr) : It :=
  ⟨fun i H => ∃ xs ys x y, SqV ka K H a xs ∧ SqV kb K H b ys ∧ xs[i]? = some x ∧ ys[i]? = some y,
   fun i H v H' => ∃ T x y, v = .ref T ∧ H T = none ∧ H' = upd H T (.tup [x, y]) ∧ (∀ xs, SqV ka K H a xs → xs[i]? = some x) ∧ ∀ ys, SqV kb K H b ys → ys[i]? = some y,
   fun i H => ∃ xs ys, SqV ka K H a xs ∧ SqV kb K H b ys ∧ xs.length ≤ i ∧ ys.length ≤ i⟩
section
variable {X : Cx} {pins : List (Addr × Obj)} {σ : L2.St} {H : Hp} {s : Shared}
theorem inv_sq {k : Bool} {a : Addr} {xs : List V} (I : Inv X pins σ H s) (h : SqV k X.K H a xs) : ∃ its, Vals xs its ∧ SqK k s.heap a its.toArray := by
  cases k with
  | true =>
    obtain ⟨its, h1, h2, _⟩ := I.list h
    exact ⟨its, h1, h2.isList⟩
  | false =>
    obtain ⟨its, h1, h2, _⟩ := I.tuple h
    exact ⟨its, h1, h2⟩
theorem inv_sq_inj {k : Bool} {a : Addr} {xs ys : List V} (I : Inv X pins σ H s) (h : SqV k X.K H a xs) (h2 : SqV k X.K H a ys) : xs = ys := by
  cases k with
  | true => exact I.list_inj h h2
  | false => exact I.tuple_inj h h2
theorem ItK.lt {k : Bool} {h : Heap} {a l : Addr} {i : Nat} (e : ItK k h a l i) : ∃ o, h.get? a = some o ∧ ∀ v, o.data ≠ .cell v := by
  cases k with
  | true =>
    obtain ⟨o, e1, e2, e3⟩ := (show h.IsListIter a l i from e)
    exact ⟨o, e1, fun v q => by rw [e3] at q; cases q⟩
  | false =>
    obtain ⟨o, e1, e2, e3⟩ := (show h.IsTupleIter a l i from e)
    exact ⟨o, e1, fun v q => by rw [e3] at q; cases q⟩
theorem ItK.at {k : Bool} {h h' : Heap} {a l : Addr} {i : Nat} (e : ItK k h a l i) (q : ∀ o, h.get? a = some o → h'.get? a = some o) : ItK k h' a l i := by
  cases k with
  | true => exact Heap.IsListIter.at e q
  | false => exact Heap.IsTupleIter.at e q
theorem turn_zs {P : Program} {w : World} {K : PySem.W.Frag} {elts : List Expr} {kk : Nat} {tpos : Pos} {ka kb : Bool} {a b z TI TO i1 i2 : Addr} (D : ZipApart z TI TO i1 i2 a b) :
    Turn P w K (.Tuple elts kk tpos) (Itzs K ka kb a b) [z, TI, TO, i1, i2] z fun i h => IsZs h z TI TO .none ∧ IsPair h TI (.ref i1) (.ref i2) ∧ (∃ x y, IsPair h TO x y) ∧ ItK ka h i1 a i ∧ ItK kb h i2 b i := by
  have nin : ∀ {c : Addr}, c ∉ [z, TI, TO, i1, i2] → c ≠ z ∧ c ≠ TI ∧ c ≠ TO ∧ c ≠ i1 ∧ c ≠ i2 := fun h => by simpa using h
  refine ⟨by simp, fun i h ⟨hz, hTI, ⟨x, y, hTO⟩, h1, h2⟩ c hc => ?_, fun i h h' ⟨hz, hTI, ⟨x, y, hTO⟩, h1, h2⟩ k => ?_, fun X hP hw hK hc i pins s σ H E I hf st hg => ?_, fun X hP hw hK hc i pins s σ H E I hf st hg => ?_, fun A i s Q E st h => iter_zs st.1 h⟩
  · have e : c = z ∨ c = TI ∨ c = TO ∨ c = i1 ∨ c = i2 := by simpa using hc
    rcases e with e | e | e | e | e
    · exact ⟨_, by rw [e]; exact hz, by intro v q; cases q⟩
    · exact ⟨_, by rw [e]; exact hTI, by intro v q; cases q⟩
    · exact ⟨_, by rw [e]; exact hTO, by intro v q; cases q⟩
    · rw [e]
      exact h1.lt
    · rw [e]
      exact h2.lt
  · exact ⟨k z (by simp) _ hz, k TI (by simp) _ hTI, ⟨x, y, k TO (by simp) _ hTO⟩, h1.at (k i1 (by simp)), h2.at (k i2 (by simp))⟩
  · subst hP hw hK
    obtain ⟨hz, hTI, ⟨x0, y0, hTO⟩, h1, h2⟩ := st
    obtain ⟨xs, ys, x, y, hqx, hqy, hx, hy⟩ := hg
    obtain ⟨its, rv, p⟩ := inv_sq I hqx
    obtain ⟨its2, rv2, p2⟩ := inv_sq I hqy
    obtain ⟨u, hu, ru⟩ := Vals.get rv hx
    obtain ⟨u2, hu2, ru2⟩ := Vals.get rv2 hy
    have hzl := Heap.lt_size hz
    refine pyNext_zs_item D hz hTI hTO h1 h2 p p2 (by simpa using hu) (by simpa using hu2) fun h' z' TO' h1' h2' hT hsz hk => ⟨_, rfl, letGo_zs z' fun h'' z'' sb => ?_⟩
    have hT2 : h''.get? s.heap.objs.size = _ := (sb.2 s.heap.objs.size (Nat.ne_of_gt hzl)).trans hT
    have new : ObjOk X.prog X.w (upd H s.heap.objs.size (.tup [x, y])) h'' s.heap.objs.size (.tup [x, y]) := ⟨by rw [sizeLine_eq]; exact (by decide : 2 ≤ 16777216), [u, u2], .cons ru (.cons ru2 .nil), _, hT2, rfl, 0, rfl⟩
    have kp : ∀ (c : Addr) (o : Obj), c ∉ [z, TI, TO, i1, i2] → s.heap.get? c = some o → h''.get? c = some o := fun c o hb q => by
      obtain ⟨n1, n2, n3, n4, n5⟩ := nin hb
      exact (sb.2 c n1).trans (hk c o n1 n3 n4 n5 q)
    have I1 := I.turnedNew (t' := s.toks) kp hf (Nat.le_refl _) new
    have lt1 : ∀ c ∈ [z, TI, TO, i1, i2], c < s.heap.objs.size := fun c hc => by
      have e : c = z ∨ c = TI ∨ c = TO ∨ c = i1 ∨ c = i2 := by simpa using hc
      rcases e with e | e | e | e | e
      · rw [e]; exact hzl
      · rw [e]; exact Heap.lt_size hTI
      · rw [e]; exact Heap.lt_size hTO
      · rw [e]
        obtain ⟨o, q, _⟩ := h1.lt
        exact Heap.lt_size q
      · rw [e]
        obtain ⟨o, q, _⟩ := h2.lt
        exact Heap.lt_size q
    refine ⟨.ref s.heap.objs.size, upd H s.heap.objs.size (.tup [x, y]), I1, rfl, ⟨_, x, y, rfl, I.hok.fresh (Nat.le_refl _), rfl, fun l hl => by rw [inv_sq_inj I hl hqx]; exact hx, fun l hl => by rw [inv_sq_inj I hl hqy]; exact hy⟩,
      ⟨z'', (sb.2 TI D.TIz).trans (hk TI _ D.TIz D.TITO D.TIi1 D.TIi2 hTI), ⟨u, u2, (sb.2 TO D.TOz).trans TO'⟩, h1'.at fun o q => (sb.2 i1 D.i1z).trans q, h2'.at fun o q => (sb.2 i2 D.i2z).trans q⟩, fun c hcm => ?_⟩
    rw [upd_ne (Nat.ne_of_lt (lt1 c hcm))]
    exact (hf c hcm).1
  · subst hP hw hK
    obtain ⟨hz, hTI, ⟨x0, y0, hTO⟩, h1, h2⟩ := st
    obtain ⟨xs, ys, hqx, hqy, hx, hy⟩ := hg
    obtain ⟨its, rv, p⟩ := inv_sq I hqx
    obtain ⟨its2, rv2, p2⟩ := inv_sq I hqy
    have l1 := Vals.length rv
    have l2 := Vals.length rv2
    refine pyNext_zs_end (I.ok.hd hc) D hz hTI h1 h2 p p2 (by simp; omega) (by simp; omega) fun h' hk => ⟨rfl, I.turnedL (t' := s.toks) (fun c o hb q => ?_) hf⟩
    obtain ⟨n1, n2, n3, n4, n5⟩ := nin hb
    exact hk c o n1 n3 n4 n5 q
end
theorem vals_2r {a b : Addr} {us : List Value} (h : Vals [V.ref a, V.ref b] us) : us = [.ref a, .ref b] := by
  cases h with
  | cons ra h =>
    cases h with
    | cons rb h =>
      cases h
      have e1 : _ = Value.ref a := ra
      have e2 : _ = Value.ref b := rb
      rw [e1, e2]
theorem vals_1b {b : Bool} {us : List Value} (h : Vals [V.bl b] us) : us = [.bool b] := by
  cases h with
  | cons ra h =>
    cases h
    have e1 : _ = Value.bool b := ra
    rw [e1]
def iZipS (K : PySem.W.Frag) (ta : TA) : TI := fun σ H R => ta σ H fun vs H1 => ∃ ka kb a b xs ys, vs = [.ref a, .ref b] ∧ SqV ka K H1 a xs ∧ SqV kb K H1 b ys ∧ R (Itzs K ka kb a b) H1
theorem pi_zipS {X : Cx} {e e2 : Expr} {ta : TA} {p pos tpos cp kp : Pos} {elts : List Expr} {kk j : Nat} (hg : Gl X "zip") (hm : X.mg "zip" = none) (ha : PA X [e, e2] ta) (hs : starEach [e, e2] X.env = (false, eval e X.env) :: starEach [e2] X.env := by rfl)
    (hpl : (backTo pos (starEach [e, e2] X.env)).any (·.1) = false := by rfl) (hk : (backToKw pos (keywordEach [⟨some "strict", .Constant (.bool true) j cp, kp⟩] X.env)).any (·.1.isNone) = false := by rfl)
    (hka : ((backToKw pos (keywordEach [⟨some "strict", .Constant (.bool true) j cp, kp⟩] X.env)).all fun x => x.fst.isSome) = true := by rfl)
    (hkn : List.filterMap (fun x => x.fst) (backToKw pos (keywordEach [⟨some "strict", .Constant (.bool true) j cp, kp⟩] X.env)) = [("strict" : Str)] := by rfl) :
    PI X (.Tuple elts kk tpos) (.Call (.Name "zip" p) [e, e2] [⟨some "strict", .Constant (.bool true) j cp, kp⟩] pos) (iZipS X.K ta) := ⟨fun pins s σ H R I h => by
  refine wpAny_Call_Name_kw (ld_blt I hg hm boot_zip (callWith_typeK hpl hk (PyProof.Rows.evalArgs_kw2 hka (thn (ha.run pos pins s σ H _ I h) fun us s1 ⟨vs, H1, I1, r1, ka, kb, a, b, xs, ys, ex, hx, hy, q⟩ => ?_) hs)))
  refine thn ((pk_cons pe_bl pk_nil : PK X [⟨some "strict", .Constant (.bool true) j cp, kp⟩] _).run pos pins s1 σ H1 (fun ks H2 => ks = [.bl true] ∧ H2 = H1) I1 ⟨rfl, rfl⟩) fun ks s2 ⟨kv, H2, I2, r2, ek, eh⟩ => ?_
  subst ex ek eh
  rw [hkn]
  obtain rfl := vals_2r r1
  obtain rfl := vals_1b r2
  obtain ⟨its, rv, p1⟩ := inv_sq I2 hx
  obtain ⟨its2, rv2, p2⟩ := inv_sq I2 hy
  refine call_zs p1 p2 ?_
  have z1 : (zH1 s2.heap ka a).objs.size = s2.heap.objs.size + 1 := Heap.size_push ..
  have z2 : (zH2 s2.heap ka kb a b).objs.size = s2.heap.objs.size + 2 := by rw [Heap.size_push, z1]
  have z3 : (zH3 s2.heap ka kb a b).objs.size = s2.heap.objs.size + 3 := by rw [Heap.size_push, z2]
  have z4 : (zH4 s2.heap ka kb a b).objs.size = s2.heap.objs.size + 4 := by rw [Heap.size_push, z3]
  have lt : ∀ {k : Bool} {c : Addr} {xs : Array Value}, SqK k s2.heap c xs → c < s2.heap.objs.size := fun {k c xs} h => by
    cases k with
    | true =>
      obtain ⟨o, q, _⟩ := (show s2.heap.IsList c xs from h)
      exact Heap.lt_size q
    | false =>
      obtain ⟨o, q, _⟩ := (show s2.heap.IsTuple c xs from h)
      exact Heap.lt_size q
  have la := lt p1
  have lb := lt p2
  have sz : ∀ (h : Heap) (o : Obj) (n : Nat), o.isFreed = false → h.objs.size = n → (h.push o).get? n = some o := fun h o n hf q => by
    subst q
    exact Heap.get?_push_size h hf
  have itF : ∀ (k : Bool) (l : Addr), (itO k l).isFreed = false := fun k l => by cases k <;> rfl
  have g5 : IsZs (zH5 s2.heap ka kb a b) (s2.heap.objs.size + 4) (s2.heap.objs.size + 2) (s2.heap.objs.size + 3) .none := by
    have q := sz (zH4 s2.heap ka kb a b) ⟨.type "zip", none, .fields #[.none, .bool false, .bool true, .ref (zH2 s2.heap ka kb a b).objs.size, .ref (zH3 s2.heap ka kb a b).objs.size], #[]⟩ _ rfl z4
    rw [z2, z3] at q
    show (Heap.push _ _).get? _ = _
    rw [z2, z3]
    exact q
  have g4 : IsPair (zH5 s2.heap ka kb a b) (s2.heap.objs.size + 3) .none .none := Heap.get?_push_of_some _ (sz _ _ _ rfl z3)
  have g3 : IsPair (zH5 s2.heap ka kb a b) (s2.heap.objs.size + 2) (.ref s2.heap.objs.size) (.ref (s2.heap.objs.size + 1)) := by
    have q := Heap.get?_push_of_some (⟨.type "tuple", none, .seq #[.none, .none], #[]⟩ : Obj) (sz (zH2 s2.heap ka kb a b) ⟨.type "tuple", none, .seq #[.ref s2.heap.objs.size, .ref (zH1 s2.heap ka a).objs.size], #[]⟩ _ rfl z2)
    have q2 := Heap.get?_push_of_some (⟨.type "zip", none, .fields #[.none, .bool false, .bool true, .ref (zH2 s2.heap ka kb a b).objs.size, .ref (zH3 s2.heap ka kb a b).objs.size], #[]⟩ : Obj) q
    exact q2.trans (by rw [z1])
  have it0 : ∀ {k : Bool} {l : Addr} {h : Heap} {c : Addr}, h.get? c = some (itO k l) → ItK k h c l 0 := fun {k l h c} q => by
    cases k with
    | true => exact ⟨_, q, rfl, rfl⟩
    | false => exact ⟨_, q, rfl, rfl⟩
  have g2 : ItK kb (zH5 s2.heap ka kb a b) (s2.heap.objs.size + 1) b 0 := it0 (Heap.get?_push_of_some _ (Heap.get?_push_of_some _ (Heap.get?_push_of_some _ (sz _ _ _ (itF _ _) z1))))
  have g1 : ItK ka (zH5 s2.heap ka kb a b) s2.heap.objs.size a 0 := it0 (Heap.get?_push_of_some _ (Heap.get?_push_of_some _ (Heap.get?_push_of_some _ (Heap.get?_push_of_some _ (sz _ _ _ (itF _ _) rfl)))))
  have D : ZipApart (s2.heap.objs.size + 4) (s2.heap.objs.size + 2) (s2.heap.objs.size + 3) s2.heap.objs.size (s2.heap.objs.size + 1) a b := by
    have la' : @LT.lt Nat instLTNat a s2.heap.objs.size := la
    have lb' : @LT.lt Nat instLTNat b s2.heap.objs.size := lb
    constructor <;> (intro q; have q' : (_ : Nat) = _ := q; omega)
  rw [z4]
  refine iter_zs (s := { heap := zH5 s2.heap ka kb a b, gens := s2.gens, drawn := s2.drawn, toks := s2.toks, os := s2.os }) g5 ?_
  refine ⟨_, _, _, Itzs X.K ka kb a b, H2, rfl, I2.kept fun c o q => Heap.get?_push_of_some _ (Heap.get?_push_of_some _ (Heap.get?_push_of_some _ (Heap.get?_push_of_some _ (Heap.get?_push_of_some _ q)))), turn_zs D, ⟨g5, g3, ⟨_, _, g4⟩, g1, g2⟩, fun c hc => ?_, q⟩
  have hge : s2.heap.objs.size ≤ c := by
    have e : c = s2.heap.objs.size + 4 ∨ c = s2.heap.objs.size + 2 ∨ c = s2.heap.objs.size + 3 ∨ c = s2.heap.objs.size ∨ c = s2.heap.objs.size + 1 := by simpa using hc
    rcases e with e | e | e | e | e <;> rw [e]
    · exact Nat.le_add_right _ 4
    · exact Nat.le_add_right _ 2
    · exact Nat.le_add_right _ 3
    · exact Nat.le_refl _
    · exact Nat.le_add_right _ 1
  exact I2.fpOk hge (I2.hok.fresh hge)⟩
section
variable {T : Tx} {X : Cx} {W : WX}
def zipD : List D → List D → List D
  | x :: xs, y :: ys => .tup [x, y] :: zipD xs ys
  | _, _ => []
theorem zipD_at : ∀ {xs ys : List D} {i : Nat} {d : D}, (zipD xs ys)[i]? = some d → ∃ x y, xs[i]? = some x ∧ ys[i]? = some y ∧ d = .tup [x, y]
  | x :: xs, y :: ys, 0, d, h => by
    unfold zipD at h
    simp at h
    exact ⟨x, y, rfl, rfl, h.symm⟩
  | x :: xs, y :: ys, i + 1, d, h => by
    unfold zipD at h
    exact zipD_at (i := i) (by simpa using h)
  | [], _, _, _, h => by simp [zipD] at h
  | _ :: _, [], _, _, h => by simp [zipD] at h
theorem zipD_len : ∀ {xs ys : List D}, xs.length = ys.length → (zipD xs ys).length = xs.length
  | x :: xs, y :: ys, h => by
    unfold zipD
    simp at h ⊢
    exact zipD_len h
  | [], _, h => by simp [zipD]
  | _ :: _, [], h => by simp at h
/-- a list or a tuple that stands -/
def seqD : Xv → Option (List D)
  | .d (.tup xs) => some xs
  | .d (.lst xs) => some xs
  | .d (.scr ns) => some (ns.map .int)
  | _ => none
theorem seqD_ok {w : Wd} {x : Xv} {v : V} {xs : List D} (e : RX T w x v) (h : seqD x = some xs) : ∃ k a vs, v = .ref a ∧ SqV k T.K w.G a vs ∧ Rs T w.G xs vs := by
  unfold seqD at h
  split at h
  · cases h
    obtain ⟨a, vs, f1, f2, f3⟩ := (show R T w.G (.tup xs) v from e : _)
    exact ⟨false, a, vs, f1, f2, f3⟩
  · cases h
    have x1' : R T w.G (.lst xs) v := e
    unfold R at x1'
    obtain ⟨a, vs, f1, f2, f3⟩ := x1'
    exact ⟨true, a, vs, f1, .of f2, f3⟩
  · rename_i ns
    cases h
    have x1' : R T w.G (.scr ns) v := e
    unfold R at x1'
    obtain ⟨a, f1, f2⟩ := x1'
    exact ⟨true, a, _, f1, f2, rs_ints ns⟩
  · cases h
theorem sqV_mono {k : Bool} {K : PySem.W.Frag} {G H : Hp} {a : Addr} {xs : List V} (g : Same G H) (h : SqV k K G a xs) : SqV k K H a xs := by
  cases k with
  | true => exact g.seq h
  | false => exact sqT_mono g h
theorem wk_zip {G : Hp} {ka kb : Bool} {a b : Addr} {vs us : List V} {xs ys : List D} (e1 : SqV ka T.K G a vs) (e2 : SqV kb T.K G b us) (h1 : Rs T G xs vs) (h2 : Rs T G ys us) (hl : xs.length = ys.length) : Wk T G (Itzs T.K ka kb a b) (zipD xs ys) := by
  refine ⟨fun i d w s H hi g r => ?_, fun w s H g r => ?_⟩
  · obtain ⟨x, y, hx, hy, rfl⟩ := zipD_at hi
    obtain ⟨v, hv, rv⟩ := h1.get hx
    obtain ⟨u, hu, ru⟩ := h2.get hy
    have q1 := sqV_mono r.g (sqV_mono g e1)
    have q2 := sqV_mono r.g (sqV_mono g e2)
    refine ⟨⟨vs, us, v, u, q1, q2, hv, hu⟩, ?_⟩
    rintro z H' ⟨t, v', u', rfl, ht, rfl, k1, k2⟩
    have f1 := k1 vs q1
    have f2 := k2 us q2
    rw [hv] at f1
    rw [hu] at f2
    cases f1
    cases f2
    obtain ⟨l, r'⟩ := r.laidG (o := .tup [v, u]) ht
    refine ⟨_, l, ?_, r'⟩
    show R T _ (.tup [x, y]) _
    unfold R
    exact ⟨t, [v, u], rfl, .inl (.inl upd_same), Rs.mono l.g (.cons (R.mono g rv) (.one (R.mono g ru)))⟩
  · exact ⟨vs, us, sqV_mono r.g (sqV_mono g e1), sqV_mono r.g (sqV_mono g e2), by rw [zipD_len hl, h1.length]; exact Nat.le_refl _, by rw [zipD_len hl, hl, h2.length]; exact Nat.le_refl _⟩
def zipSF (g : FA) : FE := fun ρ s => (g ρ s).bind fun xs s1 => match xs with
  | [x, y] => match seqD x, seqD y with
    | some as, some bs => if as.length = bs.length then .ok (.d (.lst (zipD as bs))) s1 else .stuck
    | _, _ => .stuck
  | _ => .stuck
theorem pfi_zipS {e e2 : Expr} {g : FA} {p pos tpos cp kp : Pos} {elts : List Expr} {kk j : Nat} (hK : X.K = T.K) (hm : X.mg "zip" = none) (ha : PFA T X W [e, e2] g) (hg : Gl X "zip" := by rfl) (hs : starEach [e, e2] X.env = (false, eval e X.env) :: starEach [e2] X.env := by rfl)
    (hpl : (backTo pos (starEach [e, e2] X.env)).any (·.1) = false := by rfl) (hk : (backToKw pos (keywordEach [⟨some "strict", .Constant (.bool true) j cp, kp⟩] X.env)).any (·.1.isNone) = false := by rfl)
    (hka : ((backToKw pos (keywordEach [⟨some "strict", .Constant (.bool true) j cp, kp⟩] X.env)).all fun x => x.fst.isSome) = true := by rfl)
    (hkn : List.filterMap (fun x => x.fst) (backToKw pos (keywordEach [⟨some "strict", .Constant (.bool true) j cp, kp⟩] X.env)) = [("strict" : Str)] := by rfl) :
    PFI T X W (.Tuple elts kk tpos) (.Call (.Name "zip" p) [e, e2] [⟨some "strict", .Constant (.bool true) j cp, kp⟩] pos) (zipSF g) :=
  PI.imp (pi_zipS hg hm ha hs hpl hk hka hkn) fun st H Q ⟨w, ρ, s, e, q, p⟩ => rdA_mono (postI_bindL e q p) fun us H1 ⟨w1, xs, s1, l1, e1, x1, r1, p1⟩ => by
    rw [hK]
    split at p1
    · rename_i x y
      split at p1
      · rename_i as bs ha hb
        split at p1
        · rename_i hl
          obtain ⟨v, u, rfl, x2, x3⟩ := rxs2 x1
          obtain ⟨ka, a, vs, f1, f2, f3⟩ := seqD_ok x2 ha
          obtain ⟨kb, b, ws, g1, g2, g3⟩ := seqD_ok x3 hb
          subst f1 g1
          exact ⟨ka, kb, a, b, vs, ws, rfl, sqV_mono r1.g f2, sqV_mono r1.g g2, p1 w1 _ H1 (.refl _) (wk_zip f2 g2 f3 g3 hl) r1⟩
        · exact p1.elim
      · exact p1.elim
    · exact p1.elim
end
end FL

set_option Elab.async false
set_option linter.all false
set_option maxRecDepth 100000
set_option maxHeartbeats 400000
namespace FL
open PySem PySem.W PySem.Calls PyProof.Rows PySem.HandSPX
/-! ### an own error: super().__init__(value); self.value = value -/
def iA (p1 p2 pd : Pos) : Arguments := { posonlyargs := [], args := [{ arg := "self", annotation := none, pos := p1 }, { arg := "value", annotation := none, pos := p2 }], vararg := none, kwonlyargs := [], kw_defaults := [], kwarg := none, defaults := [.Constant .none 0 pd] }
def iB (q1 q2 q3 q4 q5 q6 q7 q8 q9 qa : Pos) : List Stmt := [.Expr (.Call (.Attribute (.Call (.Name "super" q1) [] [] q2) "__init__" q3) [.Name "value" q4] [] q5) q6, .Assign [.Attribute (.Name "self" q7) "value" q8] (.Name "value" q9) qa]
def iS : Scope := { kind := .function, names := [(PySem.Str.ofString "self", .local), (PySem.Str.ofString "value", .local), (PySem.Str.ofString "__class__", .free), (PySem.Str.ofString "super", .globalImplicit)], isGenerator := false, isCoroutine := false, more := [] }
theorem iS_c : ∀ y ∈ iS.names, y.2 ≠ .cell := by decide +kernel
theorem iS_sup : iS.names.lookup ("super" : Str) = some .globalImplicit := by decide +kernel
theorem iS_cls : iS.names.lookup ("__class__" : Str) = some .free := by decide +kernel
theorem iS_self : iS.names.lookup ("self" : Str) = some .local := by decide +kernel
theorem iS_val : iS.names.lookup ("value" : Str) = some .local := by decide +kernel
theorem err_binds {s : Shared} {qual : Str} {p1 p2 pd : Pos} {body : List Stmt} {Td : Addr} {kV doc pm cdv ct : Value} {an : Option Addr} {cc : Addr} {oT : Obj} {n : Nat} {a v : Value} (hT : s.heap.get? Td = some oT) (hd : oT.data = .seq #[.none] n) :
    BindsTo s (ksFn "__init__" qual (iA p1 p2 pd) body iS (.ref Td) kV doc pm an cdv ct cc) ⟨[a, v], []⟩ [("self", a), ("value", v)] := by
  intro M A E Q h
  have e : ∃ k, bindArgs (ksFn "__init__" qual (iA p1 p2 pd) body iS (.ref Td) kV doc pm an cdv ct cc) ⟨[a, v], []⟩ = seqItems? (.ref Td) >>= k ∧ k (some #[.none]) = pure ([("self", a), ("value", v)] : List (Str × Value)) := ⟨_, rfl, by first | with_unfolding_all rfl | kernel_rfl⟩
  obtain ⟨k, e1, e2⟩ := e
  rw [e1]
  exact wpAny_bind (wpAny_seqItems hT hd (wpAny_of_eq e2 h))
theorem iS_l (a b : Value) : ∀ y ∈ ([("self", a), ("value", b)] : List (Str × Value)), iS.names.lookup y.1 = some .local := by
  intro y hy
  have e : y = (("self" : Str), a) ∨ y = (("value" : Str), b) := by simpa using hy
  rcases e with e | e
  · subst e
    show iS.names.lookup ("self" : Str) = some .local
    decide +kernel
  · subst e
    show iS.names.lookup ("value" : Str) = some .local
    decide +kernel
def veB : List Value := [.type "ValueError", .type "Exception", .type "BaseException", .type "object"]
theorem ev_sup (env : Env) (q1 q2 q4 : Pos) (apos pos : Pos) (h : (apos.endLine == pos.line) = true) : eval (.Call (.Attribute (.Call (.Name "super" q1) [] [] q2) "__init__" apos) [.Name "value" q4] [] pos) env = (do
          let ov ← attributeBase (.Call (.Name "super" q1) [] [] q2) "__init__" env (eval (.Call (.Name "super" q1) [] [] q2) env)
          standAt apos.atName
          let __x ← holding [ov] (getMethod ov "__init__" (do
            let b ← importBound (.Call (.Name "super" q1) [] [] q2) env
            pure (b.getD true)))
          match __x with
            | (f, first) => callWith pos f first (backTo pos (starEach [.Name "value" q4] env)) []) := by
  show (do
          let ov ← attributeBase (.Call (.Name "super" q1) [] [] q2) "__init__" env (eval (.Call (.Name "super" q1) [] [] q2) env)
          standAt apos.atName
          methodCall (.Call (.Name "super" q1) [] [] q2) "__init__" apos pos env ov 1 (backTo pos (starEach [.Name "value" q4] env)) []) = _
  have e : ∀ ov, methodCall (.Call (.Name "super" q1) [] [] q2) "__init__" apos pos env ov 1 (backTo pos (starEach [.Name "value" q4] env)) [] = (do
          let __x ← holding [ov] (getMethod ov "__init__" (do
            let b ← importBound (.Call (.Name "super" q1) [] [] q2) env
            pure (b.getD true)))
          match __x with
            | (f, first) => callWith pos f first (backTo pos (starEach [.Name "value" q4] env)) []) := fun ov => by
    have f : methodCallForm 1 (backTo pos (starEach [.Name "value" q4] env)) [] = true := rfl
    unfold methodCall methodCallPos
    rw [f, h]
    rfl
  simp only [e]

/-- what the written part says of such a class -/
structure ErrTxt (prog : Program) (K : Frag) (C fI : Addr) : Prop where
  cls : ∃ nm q N bs bm sn sub ab col dd k0 k1 k2 k3 k5, K.lookup C = some (excClassObj nm q C N bs bm true sn sub ab col dd k0 k1 k2 k3 k5 "ValueError.__new__") ∧ refsVE bm = true
  sa : findIn K (.ref C) "__setattr__" = some (some (.builtin "object.__setattr__"))
  ga : findIn K (.ref C) "__getattribute__" = some (some (.builtin "BaseException.__getattribute__"))
  gg : findIn K (.ref C) "__getattr__" = some none
  noN : findIn K (.ref C) "value" = some none
  iC : findIn K (.ref C) "__init__" = some (some (.ref fI))
  tC : typeIn K (.ref fI) = some (.type "function")
  kC : keepIn K (.ref C) = true
  exC : subIn K (.ref C) (.type "BaseException") = some true
  tyC : typeIn K (.ref C) = some (.type "type")
  hdC : hasDictIn K C = true
  xi : excInitIn K C veB "ValueError.__new__" = true
  sup : ks_superIn K C C "__init__" = some (some (.builtin "ValueError.__init__"))
  sV : subIn K (.ref C) (.type "ValueError") = some true
  nt : nsIn K cStatics "thirdparty.any" = some none
  mC : mroIn K C (.ref C) = some true
  fn : ∃ (oc : Value) (od : Option Addr) (Td : Addr) (oT : Obj) (nT : Nat) (kV doc pm : Value) (an : Option Addr) (cda : Addr) (ct : Value) (osl : Array (Option Value)) (p1 p2 q1 q2 q3 q4 q5 q6 q7 q8 q9 qa : Pos) (pd : Pos) (qual : Str) (cc : Addr) (ccl : Value) (cdd : Option Addr) (vs : Array Value) (ccs : Array (Option Value)) (file : Str) (tf : Tok) (cl : Value) (cld : Option Addr) (csl : Array (Option Value)),
    K.lookup fI = some ⟨oc, od, .func (ksFn "__init__" qual (iA p1 p2 pd) (iB q1 q2 q3 q4 q5 q6 q7 q8 q9 qa) iS (.ref Td) kV doc pm an (.ref cda) ct cc), osl⟩ ∧ codeIn K (.ref cda) qual = true ∧ K.lookup Td = some oT ∧ oT.data = .seq #[.none] nT ∧ (q3.endLine == q5.line) = true ∧
    K.lookup cda = some ⟨ccl, cdd, .fields vs, ccs⟩ ∧ vs[2]? = some (.str file tf) ∧ (prog.main.file == file) = true ∧ K.lookup cc = some ⟨cl, cld, .cell (some (.ref C)), csl⟩
  top : (prog.main.scope.names.lookup ("super" : Str)).isSome = false
/-- what __init__ leaves of a fresh exception at x -/
structure InitEnd (h h' : Heap) (x C dx t1 : Addr) (v : Value) : Prop where
  keep : ∀ b o, b ≠ x → h.get? b = some o → h'.get? b = some o
  obj : h'.get? x = some { cls := .ref C, dict := some dx, data := .fields #[.ref t1, .none, .none, .none, .bool false, .none] }
  dbig : h.objs.size ≤ dx
  dne : dx ≠ x
  ns : h'.Ns1 dx (fun y => if y = "value" then some v else none)
/-- what stands of a made error -/
structure OwnMade (h h' : Heap) (e C d : Addr) (v : Value) : Prop where
  keep : ∀ b o, h.get? b = some o → h'.get? b = some o
  new : h.objs.size ≤ e
  obj : ∃ oe vs, h'.get? e = some oe ∧ oe.cls = Value.ref C ∧ oe.dict = some d ∧ oe.data = .fields vs ∧ vs[1]? = some .none
  dbig : h.objs.size ≤ d
  dne : d ≠ e
  ns : h'.Ns1 d (fun y => if y = "value" then some v else none)
theorem one_sz (v : Value) : [v].length ≤ sizeLine := by
  rw [sizeLine_eq]
  exact (by decide : 1 ≤ 16777216)
section
variable {prog : Program} {w : World} {A : Around} {E : Value → Shared → Prop} {R : Result → Shared → Prop} {s : Shared} {K : Frag} {mg mb : Str → Option Value} {C fI : Addr}
theorem ldE {M : Model} {A : Around} {E : Value → Shared → Prop} {s : Shared} {name : Str} {scope : Scope} {L a : Addr} {cd : Value} {cc : Addr} {m : Str → Option Value} {x : Str} {pos : Pos} {v : Value} {Q : Value → Shared → Prop} (hn : s.heap.Ns L m) (hv : m x = some v) (h : Q v s)
    (hk : scope.kind = .function := by rfl) (hl : (ksEnv name scope L a cd cc).kindOf x = some .local := by rfl) (hd : (x == ("__debug__" : Str)) = false := by decide) :
    wpAny M A (eval (.Name x pos) (ksEnv name scope L a cd cc)) Q E s := wpAny_Name (wpAny_loadName_local hk hl hn hv h) hd
theorem err_init (T : ErrTxt prog K C fI) {x t0 : Addr} {v : Value} (X : K.In s.heap) (hlim : s.heap.NoLimit) (hg : s.heap.Ns mainGlobals mg) (hb : s.heap.Ns builtinsNs mb) (hms : mg "super" = none) (hbs : mb "super" = some (.type "super"))
    (hx : s.heap.get? x = some (excO C t0)) (hnx : K.lookup x = none) (hroom : A.depth < recursionLimit)
    (hq : ∀ h' tk dx t1, InitEnd s.heap h' x C dx t1 v → R (.ok (.ret .none)) { s with heap := h', toks := tk }) :
    codeAny (model prog w) A (.call (.ref fI) ⟨[.ref x, v], []⟩) R s := by
  obtain ⟨oc, od, Td, oT, nT, kV, doc, pm, an, cda, ct, osl, p1, p2, q1, q2, q3, q4, q5, q6, q7, q8, q9, qa, pd, qual, cc, ccl, cdd, vs, ccs, file, tf, cl, cld, csl, ho, hcd, hTd, hTs, hqq, hcda, hvs, hfile, hcell⟩ := T.fn
  obtain ⟨nm, q, N, bs, bm, sn, sub, ab, col, dd2, k0, k1, k2, k3, k5, hC, hbm⟩ := T.cls
  have hcl : clsIn K C = some { name := nm, bases := bs, mro := .ref C :: bm, ns := N, qualname := q, hasDict := true, slotNames := sn, subclasses := sub, abstract := ab, collection := col, hasDel := false } := by unfold clsIn; rw [hC] <;> rfl
  refine ks_codeAny_call_defAt (binds := [("self", .ref x), ("value", v)]) hroom (X _ _ ho) rfl hlim (codeRec_of X hcd) rfl (err_binds (X _ _ hTd) hTs) iS_c (iS_l _ _) (fun h₁ hn k => ?_) rfl rfl rfl
  have hxL : s.heap.objs.size ≠ x := Nat.ne_of_gt (Heap.lt_size hx)
  -- the exception is hidden in what stands
  have F1 : Fr (hideAll s.heap [x]) s.heap.objs.size h₁ (fun y => List.lookup y ([("self", .ref x), ("value", v)] : List (Str × Value)).reverse) := ⟨hn, fun b o e => k b o (of_hideAll _ e), Nat.le_of_eq (hideAll_size _ _)⟩
  have N1 : News (hideAll s.heap [x]) s.heap.objs.size h₁ [(x, excObj C t0 none .none)] := fun p hp => by
    have e : p = (x, excObj C t0 none .none) := by simpa using hp
    subst e
    exact ⟨k _ _ hx, hxL.symm, hideAll_none _ (by simp)⟩
  have Xg : K.In (hideAll s.heap [x]) := fun b o e => hideAll_get [x] (X _ _ e) (fun z => by
    have z' : b = x := by simpa using z
    subst z'
    rw [hnx] at e
    cases e)
  have X1 : K.In h₁ := X.keeps k
  have kS : ∀ (nm : Str), (ksEnv qual iS s.heap.objs.size fI (.ref cda) cc).kindOf nm = iS.names.lookup nm := fun nm => rfl
  refine ks_wpAt_execs_cons (ks_wpAt_Expr_any (ks_wpAt_MethodCall (pl := do
            let b ← importBound (.Call (.Name "super" q1) [] [] q2) (ksEnv qual iS s.heap.objs.size fI (.ref cda) cc)
            pure (b.getD true)) ?_ (ev_sup _ _ _ _ _ _ hqq)) rfl rfl)
  obtain ⟨oD, hD1, hD2⟩ : ∃ oD, h₁.get? C = some oD ∧ oD.data = .cls { name := nm, bases := bs, mro := .ref C :: bm, ns := N, qualname := q, hasDict := true, slotNames := sn, subclasses := sub, abstract := ab, collection := col, hasDel := false } := ⟨_, X1 _ _ hC, rfl⟩
  refine ks_wpAt_super_base (f := fI) (cc := cda) (ar := { arg := "self", annotation := none, pos := p1 }) iS_sup iS_cls (by decide +kernel) rfl (X1 _ _ ho) rfl rfl rfl (X1 _ _ hcda) rfl hvs hfile T.top ?_
  refine ks_loadName_global rfl iS_sup (Calls.loadGlobal_builtin (hg.keeps k) hms (hb.keeps k) hbs ⟨rfl, ?_⟩)
  refine wpAny_loadName_free (c := cc) rfl iS_cls rfl ⟨_, X1 _ _ hcell, rfl⟩ ?_
  refine wpAny_loadName_local rfl iS_self hn (show List.lookup ("self" : Str) ([("self", .ref x), ("value", v)] : List (Str × Value)).reverse = some (.ref x) by rfl) ?_
  refine ks_wpAny_isType_cls hD1 hD2 ⟨rfl, ?_⟩
  refine ks_wpAny_call_super hD1 hD2 (k _ _ hx) rfl (fun c e => by cases e) (looks_mroIn X1 T.mC) fun h₂ e₂ k₂ => ?_
  obtain ⟨F2, N2, l2⟩ := ks_newsPush (s := { heap := h₁, gens := s.gens, drawn := s.drawn, toks := s.toks + 2, os := s.os }) F1 N1 rfl e₂ k₂
  refine kxs_method kxs_ValueError F2 Xg N2 (x := x) (C := C) (D := C) (ox := excO C t0) (odx := none) (List.mem_cons_self ..) ⟨(N2 _ (List.mem_cons_of_mem _ (List.mem_cons_self ..))).1, rfl, rfl, trivial⟩ T.nt T.sup T.sV (by decide +kernel) fun u h₃ F3 N3 l3 => ?_
  refine kxs_callWith1 N3 (u := u) (i := "ValueError.__init__") (List.mem_cons_self ..) ?_ rfl rfl
  have nso : (h₁.objs.size : Addr) ≠ x := Ne.symm (Nat.ne_of_lt (l2 _ (List.mem_cons_self ..)))
  have nu : u ≠ x := Ne.symm (Nat.ne_of_lt (l3 (x, excObj C t0 none .none) (List.mem_cons_of_mem _ (List.mem_cons_self ..))))
  refine PyProof.Rows.spliced_more (ldE (v := v) F3.ns (by rfl) (PyProof.Rows.spliced_none ⟨kxs_at N3 (List.mem_cons_self ..), ?_⟩) rfl iS_val) rfl
  refine kxs_call F3 Xg N3 F.excBase_ValueError T.xi (List.mem_cons_self ..) (.tail nu (.tail nso (.head fun p hp => nomatch hp))) (one_sz v) fun t1 h₄ F4 N4 l4 => ?_
  have hx4 : h₄.get? x = some (excO C t1) := (N4 (x, excObj C t1 none .none) (by simp)).1
  have X4 : K.In h₄ := Xg.keeps F4.keep
  refine wpAt_of_wpAny (wpAny_execs_cons (plainObj_wpAny_Assign_Attribute ?_))
  refine ldE (v := v) F4.ns (by rfl) (ldE (v := .ref x) F4.ns (by rfl) ?_ rfl iS_self) rfl iS_val
  refine set_plain X4 (ox := excO C t1) (od := none) ⟨hx4, rfl, rfl, trivial⟩ T.sa ?_
  refine exc_osa X4 hx4 hcl (show refsVE (.ref C :: bm) = true from hbm) rfl T.noN (fun h₅ tk₅ dx k₅ dn dne hx₅ hn₅ => ?_)
  have old : ∀ b o, b ≠ x → s.heap.get? b = some o → h₅.get? b = some o := fun b o hb e => k₅ b o hb (F4.keep b o (hideAll_get [x] e (by simpa using hb)))
  have sz : s.heap.objs.size ≤ dx := by
    have q : s.heap.objs.size < h₄.objs.size := F4.ns.lt
    exact Nat.le_of_lt (Nat.lt_of_lt_of_le q dn)
  exact wpAny_execs_nil (hq h₅ tk₅ dx t1 ⟨old, hx₅, sz, dne, hn₅⟩)
theorem err_made (T : ErrTxt prog K C fI) {v : Value} (X : K.In s.heap) (hlim : s.heap.NoLimit) (hg : s.heap.Ns mainGlobals mg) (hb : s.heap.Ns builtinsNs mb) (hms : mg "super" = none) (hbs : mb "super" = some (.type "super")) (hroom : A.depth + 1 < recursionLimit)
    (hq : ∀ h' tk e d, OwnMade s.heap h' e C d v → R (.ok (.ret (.ref e))) { s with heap := h', toks := tk }) :
    codeAny (model prog w) A (.call (.ref C) ⟨[v], []⟩) R s := by
  obtain ⟨nm, q, N, bs, bm, sn, sub, ab, col, dd, k0, k1, k2, k3, k5, hC, hbm⟩ := T.cls
  obtain ⟨hp, g, dr, tk, os⟩ := s
  have k : ∀ b o, hp.get? b = some o → ((hp.push (kdv_tup [v])).push (excO C hp.objs.size)).get? b = some o := fun b o e => Heap.get?_push_of_some _ (Heap.get?_push_of_some _ e)
  have hget : ((hp.push (kdv_tup [v])).push (excO C hp.objs.size)).get? (hp.objs.size + 1) = some (excO C hp.objs.size) := by heap_get
  have hnx : K.lookup (hp.objs.size + 1) = none := by
    cases e : K.lookup (hp.objs.size + 1) with
    | none => rfl
    | some o =>
      have z : hp.get? (hp.objs.size + 1) = some o := X _ _ e
      exact absurd (Nat.lt_of_succ_lt (Heap.lt_size z)) (Nat.lt_irrefl _)
  refine call_own F.excBase_ValueError (fun X => refsVE_contains X bm hbm) (X _ _ hC) (looks_findIn X T.iC) (fun self => bind_fn X self T.tC) (one_sz v) ?_
  refine err_init (s := ⟨(hp.push (kdv_tup [v])).push (excO C hp.objs.size), g, dr, tk, os⟩) T (X.keeps k) (hlim.keeps k) (hg.keeps k) (hb.keeps k) hms hbs hget hnx ?_ fun h' tk' dx t1 ⟨k', hx, dn, dne, hns⟩ => ?_
  · show A.depth + 1 < recursionLimit
    exact hroom
  · have old : ∀ b o, hp.get? b = some o → h'.get? b = some o := fun b o e => k' b o (Nat.ne_of_lt (Nat.lt_succ_of_lt (Heap.lt_size e))) (k b o e)
    have z : hp.objs.size + 1 + 1 ≤ dx := by
      first
        | (simpa only [Heap.size_push] using dn)
        | exact dn
        | (have q := dn; rw [Heap.size_push, Heap.size_push] at q; exact q)
    exact ⟨rfl, hq h' tk' (hp.objs.size + 1) dx ⟨old, Nat.le_succ _, ⟨_, _, hx, rfl, rfl, rfl, rfl⟩, Nat.le_trans (Nat.le_trans (Nat.le_succ _) (Nat.le_succ _)) z, dne, hns⟩⟩
end
end FL

set_option Elab.async false
set_option linter.all false
set_option maxRecDepth 100000
set_option maxHeartbeats 400000
namespace FL
open PySem PySem.Spec PyProof.Rows L2
/-- an exception's class -/
structure ExK (K : PySem.W.Frag) (C : Addr) : Prop where
  ga : PySem.W.findIn K (.ref C) "__getattribute__" = some (some (.builtin "BaseException.__getattribute__"))
  gg : PySem.W.findIn K (.ref C) "__getattr__" = some none
  exC : PySem.W.subIn K (.ref C) (.type "BaseException") = some true
  hdC : PySem.W.hasDictIn K C = true
  cl : (PySem.W.clsIn K C).isSome = true
  ha : PySem.W.findIn K (.ref C) "__class__" = some (some (.builtin "object.__class__"))
  hn : PySem.W.specialIn K (.builtin "object.__class__") "__get__" = some (some (.builtin "getset_descriptor.__get__"))
  ht : PySem.W.takesIn K (.builtin "object.__class__") = some true
  hm : PySem.W.mroIn K C (.type "object") = some true
  noV : PySem.W.findIn K (.ref C) "value" = some none
/-- the exception at a, in a heap -/
theorem ex_inst {X : Cx} {pins : List (Addr × Obj)} {σ : L2.St} {H : Hp} {s : Shared} {a C : Addr} {d : Option Addr} (I : Inv X pins σ H s) (h : H a = some (ExA (.ref C) d a)) (hd : d = none ∨ ∃ dd fs, d = some dd ∧ H dd = some (.xd fs)) :
    ∃ oe od, PySem.W.InstAt s.heap a oe C od := by
  obtain ⟨⟨oe, e1, ⟨e2, e3⟩, vs, e4⟩, _, _⟩ := (show (∃ (oe : Obj), s.heap.get? a = some oe ∧ Zc (.ref C) d oe ∧ ∃ vs, oe.data = .fields vs) ∧ _ from I.hok a _ h)
  have no : PySem.W.notCls oe = true := by
    unfold PySem.W.notCls
    rw [e4]
  rcases hd with rfl | ⟨dd, fs, rfl, q⟩
  · exact ⟨oe, none, e1, e2, no, by rw [e3]; trivial⟩
  · obtain ⟨mA, hns, hr⟩ := (show ∃ mA, s.heap.Ns1 dd mA ∧ ∀ f : Str, RelO (List.lookup f fs) (mA f) from I.hok dd _ q)
    obtain ⟨od, ho, hl⟩ := lookIn_ns hns
    exact ⟨oe, some od, e1, e2, no, by rw [e3]; exact ho⟩
def rIsEx (K : PySem.W.Frag) : RN := fun xs H Q => ∃ (a D : Addr) (d : Option Addr) (c : V) (u : Value) (b : Bool), xs = [.ref a, c] ∧ ExK K D ∧ H a = some (ExA (.ref D) d a) ∧ (d = none ∨ ∃ dd fs, d = some dd ∧ H dd = some (.xd fs)) ∧ ClsV c u ∧ PySem.W.kitOne K (.ref D) u = some b ∧ Q (.bl b) H
theorem clsV_rel {c : V} {u v : Value} (h : ClsV c u) (r : RelV c v) : v = u := by
  cases h with
  | ty n => exact r
  | own C => exact r
theorem call_isEx {X : Cx} : CallR X (.builtin "isinstance") (rIsEx X.K) := by
  rintro pins s σ H xs us Q I r ⟨a, D, d, c, u, b, rfl, C, hx, hd, hc, e, q⟩
  obtain ⟨oe, od, J⟩ := ex_inst I hx hd
  cases r with
  | cons ra r =>
    cases r with
    | cons rb r =>
      cases r
      have e1 : _ = Value.ref a := ra
      have e2 := clsV_rel hc rb
      subst e1 e2
      exact PySem.W.kia_one (PySem.W.kitx_exc C.cl C.ga C.gg C.exC C.ha C.hn C.ht C.hm) I.kIn J e (fun z => nomatch z) fun tk => ⟨.bl b, H, I.kept fun _ _ z => z, rfl, q⟩
theorem callR_or {X : Cx} {f : Value} {r1 r2 : RN} (h1 : CallR X f r1) (h2 : CallR X f r2) : CallR X f (fun xs H Q => r1 xs H Q ∨ r2 xs H Q) := fun pins s σ H xs us Q I r h => h.elim (h1 pins s σ H xs us Q I r) (h2 pins s σ H xs us Q I r)
/-- what is known of the exceptions' classes -/
structure TxEx (T : Tx) (ex : Nat → Bool) : Prop where
  k : ∀ c, ex c = true → ExK T.K (T.ct c)
  is : ∀ c d, ex c = true → ex d = true → PySem.W.kitOne T.K (.ref (T.ct c)) (.ref (T.ct d)) = some (T.sub c d)
  ma : ∀ c d, ex c = true → ex d = true → PySem.W.exmOne T.K (.ref (T.ct c)) (.ref (T.ct d)) = some (T.sub c d)
section
variable {T : Tx} {X : Cx} {W : WX} {own ex : Nat → Bool}
def isEX (n : Nat) (sub : Nat → Nat → Bool) (own ex : Nat → Bool) (xs : List Xv) (s : Sto) : Res := match xs with
  | [.d (.exc c _ _), .d (.cls k)] => if ex c = true ∧ ex k = true then okB (sub c k) s else .stuck
  | xs => isiX n sub own xs s
theorem isEX_ok (K : TxOk T own) (E : TxEx T ex) : OpN T W (fun xs H Q => rIsEx T.K xs H Q ∨ rIsi T.K xs H Q) (isEX T.n T.sub own ex) := by
  intro st w xs vs s H Q hx r p
  unfold isEX at p
  split at p
  · rename_i c ns ws k
    split at p
    · rename_i h
      obtain ⟨v, u, rfl, e, f⟩ := rxs2 hx
      cases cls_v f
      have e' : R T w.G (.exc c ns ws) v := e
      unfold R at e'
      obtain ⟨a, d, fs, e1, e2, e3, e4, e5⟩ := e'
      subst e1
      refine .inl ⟨a, T.ct c, d, _, _, _, rfl, E.k c h.1, r.g _ _ e2, ?_, .own _, E.is c k h.1 h.2, okB_q p r⟩
      rcases e3 with e3 | ⟨dd, e3, e6⟩
      · exact .inl e3.1
      · exact .inr ⟨dd, fs, e3, r.g _ _ e6⟩
    · exact p.elim
  · exact .inr (isi_ok K st w _ vs s H Q hx r p)
end
end FL

set_option Elab.async false
set_option linter.all false
set_option maxRecDepth 100000
set_option maxHeartbeats 400000
namespace FL
open PySem PySem.Spec PyProof.Rows L2
theorem relO_val {v : V} {v' : Value} (r : RelV v v') (f : Str) : RelO (List.lookup f [(("value" : Str), v)]) (if f = "value" then some v' else none) := by
  by_cases hw : f = "value"
  · subst hw
    rw [if_pos rfl]
    have q : List.lookup ("value" : Str) [(("value" : Str), v)] = some v := by simp [List.lookup]
    rw [q]
    exact r
  · rw [if_neg hw]
    have qw : (f == ("value" : Str)) = false := by simpa using hw
    have q2 : List.lookup f [(("value" : Str), v)] = none := by simp [List.lookup, qw]
    rw [q2]
    trivial
theorem boot_super : bootBuiltins "super" = some (.type "super") := by first | rfl | decide +kernel | kernel_rfl
section
variable {X : Cx} {C fI : Addr}
/-- Err(e) -/
def tMkE (C : Addr) (ta : TA) : L2.St → Hp → XK → Prop := fun σ H Q => ta σ H fun vs H1 => ∃ v, vs = [v] ∧ ∀ d, H1 d = none → Q (.ref C) (some d) (upd H1 d (.xd [("value", v)]))
theorem pmk_err {a : Expr} {ta : TA} {x : Str} {p pos : Pos} {k : Nat} (T : ErrTxt X.prog X.K C fI) (hr : Room k X.A) (gC : X.mg x = some (.ref C)) (hsu : X.mg "super" = none) (ha : PA X [a] ta) (hg : Gl X x := by rfl) (hdb : (x == ("__debug__" : Str)) = false := by decide)
    (he : starEach (a :: []) X.env = (false, eval a X.env) :: starEach [] X.env := by rfl) (hpl : (backTo pos (starEach [] X.env)).any (·.1) = false := by rfl) :
    PMk X (.Call (.Name x p) [a] [] pos) (tMkE C ta) := by
  intro pins s σ H Q I h
  refine wpAny_Call_Name_kw (ld_glob I hg gC ?_ hdb)
  refine PySem.W.callWith_K (h₀ := X.base) I.ok.mod.kin T.kC (thn (ha.run pos pins s σ H _ I h) fun us s1 hh => ?_) he hpl
  obtain ⟨vs, H1, I1, r1, v, ev, q1⟩ := hh
  subst ev
  refine ⟨I1.kIn, ?_⟩
  cases r1 with
  | cons rv rn =>
    rename_i v' us'
    cases rn
    show wpAny _ _ (call (.ref C) [v']) _ _ _
    have hlim := I1.nolimit
    obtain ⟨mb, hb1, hb2⟩ := I1.mod.blt
    have hgl := I1.mod.glob.keeps I1.bk
    have hbl := hb1.keeps I1.bk
    obtain ⟨hp, g, dr, tk, os⟩ := s1
    refine wpAny_call (err_made T I1.kIn hlim hgl hbl hsu ((hb2 _ (by decide)).trans boot_super) (by have := hr.dp; omega) fun h' tk' e d M => ?_)
    show MkP X pins σ Q (.ref e) ⟨h', g, dr, tk', os⟩
    obtain ⟨oe, fv, hoe, hc, hd, hdat, h1⟩ := M.obj
    have hns := M.ns
    obtain ⟨G', g1, g2⟩ := restrict h' fun b => decide (b ≠ e)
    have gk : ∀ b, b ≠ e → G'.get? b = h'.get? b := fun b hb => g1 b (decide_eq_true hb)
    have ge : G'.get? e = none := g2 e (by simp)
    have old : ∀ b o, hp.get? b = some o → G'.get? b = some o := fun b o q => (gk b (Nat.ne_of_lt (Nat.lt_of_lt_of_le (Heap.lt_size q) M.new))).trans (M.keep b o q)
    have ob : ObjOk X.prog X.w (upd H1 d (.xd [(("value" : Str), v)])) G' d (.xd [(("value" : Str), v)]) :=
      ⟨_, hns.at (fun o q => (gk d M.dne).trans q), fun f => relO_val rv f⟩
    have J : Inv X pins σ (upd H1 d (.xd [(("value" : Str), v)])) ⟨G', g, dr, tk', os⟩ := I1.laid (t' := tk') old M.dbig ob
    refine ⟨e, oe, fv, ⟨G', g, dr, tk', os⟩, _, .ref C, some d, rfl, J, fun b o q => ?_, ge, hoe, ⟨hc, hd⟩, hdat, h1, ?_, rfl, I1.bare, raises_own T.exC T.tyC, q1 d (I1.hok.fresh M.dbig)⟩
    · by_cases hb : b = e
      · have q' : G'.get? b = some o := q
        rw [hb, ge] at q'; cases q'
      · exact (gk b hb).symm.trans q
    · rw [upd_ne (Ne.symm M.dne)]
      exact I1.hok.fresh M.new
end
section
variable {T : Tx} {X : Cx} {W : WX}
/-- raise Err(e) -/
def raiseS (c : Nat) (f : FE) : FS := fun ρ s => (f ρ s).bindS ρ fun v s1 => match v with
  | .d v => .exc (.exc c ["value"] [v]) ρ s1
  | _ => .stuck
theorem pfs_raise {a : Expr} {f : FE} {x : Str} {p pos pos2 : Pos} {k c : Nat} {C fI : Addr} (hc : X.calm = true) (E : ErrTxt X.prog X.K C fI) (hC : T.ct c = C) (hr : RoomG k X.A) (tk : Takes X W) (gC : X.mg x = some (.ref C)) (hsu : X.mg "super" = none) (ha : PF T X W a f) (hg : Gl X x := by rfl) (hdb : (x == ("__debug__" : Str)) = false := by decide)
    (he : starEach (a :: []) X.env = (false, eval a X.env) :: starEach [] X.env := by rfl) (hpl : (backTo pos (starEach [] X.env)).any (·.1) = false := by rfl) :
    PFS T X W (.Raise (some (.Call (.Name x p) [a] [] pos)) none pos2) (raiseS c f) :=
  PS.imp (ps_raise hc tk (pmk_err E hr.room gC hsu (pa_cons ha pa_nil he) hg hdb he hpl)) fun D st H ⟨w, ρ, s, e, q, p⟩ => rdE_mono (postS_bind e q p) fun u H1 ⟨w1, x, s1, l1, e1, x1, r1, p1⟩ => by
    refine ⟨u, rfl, fun d hd => ?_⟩
    split at p1
    · rename_i v
      obtain ⟨l2, r2⟩ := r1.laidG (o := .xd [("value", u)]) hd
      refine p1 _ (.ref C) (some d) st _ l2 ⟨c, ["value"], [v], [("value", u)], rfl, by rw [hC], .inr ⟨d, rfl, upd_same⟩, rfl, ?_⟩ (e1.mono l2) r2
      exact .one (RX.mono (x := .d v) l2 x1)
    · exact p1.elim
end
end FL

set_option Elab.async false
set_option linter.all false
set_option maxRecDepth 100000
set_option maxHeartbeats 400000
namespace FL
open PySem PySem.Spec PyProof.Rows L2
/-- an exception that stands in the heap is taken up among the objects that are followed -/
theorem inv_track {X : Cx} {pins : List (Addr × Obj)} {σ : L2.St} {H : Hp} {s : Shared} {a : Addr} {oe : Obj} {cls : Value} {d : Option Addr} {vs : Array Value} (I : Inv X pins σ H s) (h0 : X.s_0.heap.get? a = none) (ha : H a = none) (hl : a ≠ X.env.locals) (hp : ∀ p ∈ X.pn ++ pins, p.1 ≠ a)
    (he : s.heap.get? a = some oe) (hz : Zc cls d oe) (hd : oe.data = .fields vs) : Inv X pins σ (upd H a (ExA cls d a)) s := by
  have same : ∀ b o, H b = some o → upd H a (ExA cls d a) b = some o := fun b o e => by
    rw [upd_ne (fun z => by rw [z, ha] at e; cases e)]
    exact e
  refine ⟨I.ok, I.os, I.bare, ⟨I.base.keep, I.base.slot, fun b o hb hH hx => ?_, I.base.there, fun b xs q => same _ _ (I.base.tups b xs q), fun b o u q => same _ _ (I.base.frzs b o u q), fun b ps q => ?_⟩, I.loc, I.cell, ?_, fun x c hx => ?_, fun p hm => ?_, fun b o q => ?_, I.len⟩
  · have hb' : b ≠ a := fun z => by
      rw [z, h0] at hb
      cases hb
    rw [upd_ne hb']
    exact I.base.free b o hb hH hx
  · obtain ⟨more, k⟩ := I.base.tbls b ps q
    exact ⟨more, same _ _ k⟩
  · rw [upd_ne (Ne.symm hl)]
    exact I.free
  · have hc : c ≠ a := fun z => by
      obtain ⟨v, o, k1, k2⟩ := I.cell x c hx
      rw [z, he] at k1
      cases k1
      rw [hd] at k2
      cases k2
    rw [upd_ne hc]
    exact I.freeC x c hx
  · obtain ⟨k1, k2, k3⟩ := I.pin p hm
    refine ⟨k1, ?_, k3⟩
    rw [upd_ne (hp p hm)]
    exact k2
  · by_cases hb : b = a
    · subst hb
      rw [upd_same] at q
      cases q
      exact ⟨⟨oe, he, hz, vs, hd⟩, ⟨oe, he⟩, fun h1 h2 ⟨o1, q1, q2, q3⟩ k => ⟨o1, k _ q1, q2, q3⟩⟩
    · rw [upd_ne hb] at q
      exact (I.hok b o q).stay (fun _ _ _ z => z) (fun c q => same _ _ q) (fun c xs q => same _ _ q)
/-- try .. except C as n: suite; the exception is followed behind it -/
def wKeep (K : PySem.W.Frag) (c : Value) (i : Nat) (ts : Addr → Value → Option Addr → TS) (Wout : WX) (D : Ends) : WX := fun cls d σ H => ∃ b, PySem.W.exmOne K cls c = some b ∧
  (b = true → ∀ a, H a = none → ts a cls d { nx := fun σ' H' => D.nx (σ'.set i none) (upd H' a (ExA cls d a)), rt := fun v H' => D.rt v (upd H' a (ExA cls d a)), bk := fun σ' H' => D.bk (σ'.set i none) (upd H' a (ExA cls d a)), ct := fun σ' H' => D.ct (σ'.set i none) (upd H' a (ExA cls d a)) } (σ.set i (some (.ref a))) H) ∧ (b = false → Wout cls d σ H)
theorem ps_try_keep {X : Cx} {x n : Str} {c : Value} {i : Nat} {body suite : List Stmt} {b₀ : Stmt} {np pos pos' : Pos} {tb : WX → TS} {ts : Addr → Value → Option Addr → TS} {Wout : WX} (hs : X.stack = X.env :: X.outer) (hf : X.env.frame = some X.env.locals) (hex : X.ex = []) (hN : X.N.Nodup) (hi : X.N[i]? = some n) (hln : X.env.kindOf n = some .local)
    (hc : Names X x c) (tk : Takes X Wout) (hb : ∀ (W : WX) (pn : List (Addr × Obj)) (xe : Value → Shared → Prop), Takes (X.tr pn xe) W → PassesOwn (model X.prog X.w) X.A X.env xe → PSs (X.tr pn xe) body (tb W))
    (hsu : ∀ (a : Addr) (oe : Obj) (cls : Value) (d : Option Addr) (pn : List (Addr × Obj)), Zc cls d oe → (∃ vs, oe.data = .fields vs) → PSs (X.suite a ((a, oe) :: pn)) (b₀ :: suite) (ts a cls d)) :
    PS X (.Try body [.ExceptHandler (some (.Name x np)) (some n) (b₀ :: suite) pos'] [] [] pos) (fun D σ H => tb (wKeep X.K c i ts Wout D) D σ H) := ⟨fun pins s σ H D I h => by
  have ok := I.ok
  have hfr : X.A.frames = some (X.env :: X.outer) := by rw [ok.frames, hs]
  refine wpAny_Try_except (wpAny_mono ((hb (wKeep X.K c i ts Wout D) (X.pn ++ pins) (fun e s₁ => wpAny (model X.prog X.w) X.A (noteFrame e X.env) (fun _ s₂ => wpAny (model X.prog X.w) X.A (setFlight e none) (fun _ s₃ => wpAny (model X.prog X.w) X.A (handleBy e X.env [.ExceptHandler (some (.Name x np)) (some n) (b₀ :: suite) pos']) (SP X pins D) X.xe s₃) X.xe s₂) X.xe s₁) ?tk PassesOwn.looking).run [] s σ H D (I.toTry _) h) (fun f s1 hsp => ?_) (fun e s1 he => he))
  case tk =>
    rintro u s' ⟨a, B, sI, pins', σ', H', cls, d, rfl, J', nb, up, sky, na, os, ag, b, hb1, hyes, hno⟩
    have J := J'.ofTry ok
    have sky' : Sky B (X.env :: X.outer) a (Zc cls d) X.env.locals s'.heap := by
      have q := sky
      rw [show (X.tr (X.pn ++ pins) _).stack = X.stack from rfl, hs] at q
      exact q
    refine Sky.land Zc.steady hfr hf sky' fun h3 fl3 up3 => ?_
    have J3 := J.landed (s' := { heap := h3, gens := s'.gens, drawn := s'.drawn, toks := s'.toks, os := s'.os }) nb fl3.1 (up.trans up3) os ag
    obtain ⟨oe3, vs3, he3, hz3, hd3⟩ := fl3.there
    have nfr : a ∉ frs (X.env :: X.outer) := fun hm => by
      obtain ⟨_, o', e', hnf⟩ := fl3.2.2.1.mem hm
      rw [he3] at e'
      cases e'
      exact hnf vs3 hd3
    have nL : a ≠ X.env.locals := fun z => nfr (List.mem_filterMap.mpr ⟨X.env, List.mem_cons_self, by rw [hf, z]⟩)
    have nF : a ∉ X.fs := fun hm => by
      obtain ⟨e, he, q⟩ := List.mem_filterMap.mp hm
      exact nfr (List.mem_filterMap.mpr ⟨e, List.mem_cons_of_mem _ he, q⟩)
    -- the exception is younger than the frame
    have nI : sI.heap.get? a = none := by
      cases z : sI.heap.get? a with
      | none => rfl
      | some o =>
        have q := nb a o z (by rw [show (X.tr (X.pn ++ pins) _).stack = X.stack from rfl, hs]; exact nfr)
        rw [fl3.2.1] at q
        cases q
    have n0 : X.s_0.heap.get? a = none := by
      cases z : X.s_0.heap.get? a with
      | none => rfl
      | some o =>
        obtain ⟨o', q⟩ := J.base.there a o z (by rw [hex]; exact List.not_mem_nil)
        rw [nI] at q
        cases q
    have nP : ∀ p ∈ X.pn ++ pins, p.1 ≠ a := fun p hm z => by
      have q := (J.pin p hm).1
      rw [z, nI] at q
      cases q
    have S3 := J3.suite he3 hd3 na nL nF
    refine wpAny_handleBy_cons (codeAny_handlers_test ?_) (fun q => by cases q)
    have LT : PySem.W.Looks (model X.prog X.w) h3 (typeOf (.ref a)) cls := fun A Q E s k q => wpAny_typeOf_ref (k a oe3 he3) (by rw [hz3.1]; exact q)
    have LM := PySem.W.exm_one J3.kIn LT hb1
    have test : ∀ {Q : Value → Shared → Prop} {E : Value → Shared → Prop}, Q c { heap := h3, gens := s'.gens, drawn := s'.drawn, toks := s'.toks, os := s'.os } → wpAny (model X.prog X.w) (X.A.mark (some (.ref a))) (eval (.Name x np) X.env) Q E { heap := h3, gens := s'.gens, drawn := s'.drawn, toks := s'.toks, os := s'.os } := fun {Q E} q => by
      obtain ⟨hg, hdbg, hm | ⟨hm, hv, hnn⟩⟩ := hc
      · exact ld_glob S3 hg hm q hdbg
      · exact ld_blt S3 hg hm hv q hnn hdbg
    refine test (LM.here ?_)
    cases b with
    | false =>
      refine wpAny_handleBy_nil ?_
      obtain ⟨k1, k2, k3, oe, vs, t1, oT, ts', he, hz, hd, h1, hr⟩ := id fl3
      refine wpAny_bind (wpAny_field he hd h1 ?_)
      rw [if_neg (by simp)]
      refine wpAny_bind ?_
      rw [hf]
      exact HandSPX.setFlight_upZ fl3 fun h4 hh4 up4 => wpAny_throw (tk (.ref a) _ ⟨a, B, sI, pins, σ', H', cls, d, rfl, J, nb, (up.trans up3).trans up4, .inr (.inr (by rw [hs]; exact hh4)), na, os, ag, hno rfl⟩)
    | true =>
      refine codeAny_handlers_suite_as (HandSPX.lands_againZ fl3 fun h4 fl4 up4 => ?_)
      have J4 := J.landed (s' := { heap := h4, gens := s'.gens, drawn := s'.drawn, toks := s'.toks, os := s'.os }) nb fl4.1 ((up.trans up3).trans up4) os ag
      obtain ⟨oe4, vs4, he4, hz4, hd4⟩ := fl4.there
      have S4 := J4.suite he4 hd4 na nL nF
      refine store_ok (X := X.suite a ((a, oe4) :: (X.pn ++ pins))) (v := .ref a) S4 hN hi (.inl hln) rfl (fun s5 S5 => wpAny_mono ((hsu a oe4 cls d (X.pn ++ pins) hz4 ⟨vs4, hd4⟩).run [] s5 (σ'.set i (some (.ref a))) H' _ S5 (hyes rfl a na)) (fun f s6 hsp => ?_) (fun _ _ z => z.elim)) (.inr hln)
      have end_ : ∀ {σ6 : L2.St} {H6 : Hp} {Q : Unit → Shared → Prop} {E : Value → Shared → Prop}, Inv (X.suite a ((a, oe4) :: (X.pn ++ pins))) [] σ6 H6 s6 → (∀ s7, Inv X pins (σ6.set i none) (upd H6 a (ExA cls d a)) s7 → Q () s7) → wpAny (model X.prog X.w) X.A (do
          bindName X.env n Value.none
          unbindBehindTheSuite X.env n pos') Q E s6 := fun {σ6 H6 Q E} S6 hq => by
        have J6 := S6.unsuite ok
        obtain ⟨k1, k2, _⟩ := S6.pin (a, oe4) (List.mem_append_left _ List.mem_cons_self)
        exact gone_ok (inv_track J6 n0 k2 nL nP k1 hz4 hd4) hN hi hln hq
      cases f with
      | next =>
        obtain ⟨σ6, H6, S6, q6⟩ := hsp
        exact end_ S6 fun s7 J7 => ⟨_, _, J7, q6⟩
      | brk =>
        obtain ⟨σ6, H6, S6, q6⟩ := hsp
        exact end_ S6 fun s7 J7 => ⟨_, _, J7, q6⟩
      | cont =>
        obtain ⟨σ6, H6, S6, q6⟩ := hsp
        exact end_ S6 fun s7 J7 => ⟨_, _, J7, q6⟩
      | ret u =>
        obtain ⟨v6, σ6, H6, S6, r6, q6⟩ := hsp
        exact end_ S6 fun s7 J7 => ⟨v6, _, _, J7, r6, q6⟩
  cases f with
  | next =>
    obtain ⟨σ', H', J', q⟩ := hsp
    exact wpAny_execs_nil ⟨σ', H', J'.ofTry ok, q⟩
  | brk =>
    obtain ⟨σ', H', J', q⟩ := hsp
    exact ⟨σ', H', J'.ofTry ok, q⟩
  | cont =>
    obtain ⟨σ', H', J', q⟩ := hsp
    exact ⟨σ', H', J'.ofTry ok, q⟩
  | ret u =>
    obtain ⟨v, σ', H', J', r, q⟩ := hsp
    exact ⟨v, σ', H', J'.ofTry ok, r, q⟩⟩
section
variable {T : Tx} {X : Cx} {W : WX} {ex : Nat → Bool}
theorem upd_held {w : Wd} {s : Sto} {H : Hp} (r : RS T w s H) {a : Addr} (h : H a = none) (o : HO) : Le w { w with G := upd w.G a o } ∧ RS T { w with G := upd w.G a o } s (upd H a o) := r.laidG h o
theorem RE.setN {w : Wd} {ρ : Env'} {st : L2.St} {i : Nat} {v : Option V} (e : RE T w ρ st) : RE T w (ρ.set i none) (st.set i v) := by
  refine ⟨by simp [e.len], fun j y q => ?_⟩
  by_cases hj : i = j
  · subst hj
    have il : i < ρ.length := by
      have := (List.getElem?_eq_some_iff.mp q).1
      simpa using this
    rw [List.getElem?_set_self il] at q
    cases q
  · rw [List.getElem?_set_ne hj] at q ⊢
    exact e.at_ j y q
/-- try: body; except C as n: y = n -/
def tryKeepS (sub : Nat → Nat → Bool) (ex : Nat → Bool) (k i j : Nat) (b : FS) : FS := fun ρ s => match b ρ s with
  | .exc (.exc c ns vs) r s1 => if ex c = true ∧ i < r.length then (if sub c k = true then .nx ((((r.set i none).set j (some (.d (.exc c ns vs)))).set i none)) s1 else .exc (.exc c ns vs) r s1) else .stuck
  | .exc _ _ _ => .stuck
  | o => o
theorem pfs_tryKeep {x n y : Str} {k i j : Nat} {body : List Stmt} {np p1 p2 p3 pos pos' : Pos} {b : FS} (E : TxEx T ex) (hK : X.K = T.K) (hs : X.stack = X.env :: X.outer) (hf : X.env.frame = some X.env.locals) (hex : X.ex = []) (hfn : ∀ z, X.fn z = true) (tk : Takes X W) (hk : ex k = true) (hmc : X.mg x = some (.ref (T.ct k)))
    (hN : X.N.Nodup) (hb : ∀ (W' : WX) (pn : List (Addr × Obj)) (xe : Value → Shared → Prop), Takes (X.tr pn xe) W' → PassesOwn (model X.prog X.w) X.A X.env xe → PFSs T (X.tr pn xe) W' body b)
    (hi : X.N[i]? = some n := by rfl) (hj : X.N[j]? = some y := by rfl) (hij : i ≠ j := by decide) (hln : X.env.kindOf n = some .local := by rfl) (hly : X.env.scope.names.lookup y = some .local := by rfl) (hvn : Vis X.env.scope n := by exact .inl rfl) (hg : Gl X x := by rfl) (hdb : (x == ("__debug__" : Str)) = false := by decide) (hdn : (n == ("__debug__" : Str)) = false := by decide) (hdc : (n == ("__classdict__" : Str)) = false := by decide)
    (hsw : swapsWith (.Name n p2) (some (.Name y p1)) p3.line X.env = pure false := by rfl) :
    PFS T X W (.Try body [.ExceptHandler (some (.Name x np)) (some n) [.Assign [.Name y p1] (.Name n p2) p3] pos'] [] [] pos) (tryKeepS T.sub ex k i j b) := by
  refine PS.imp (ps_try_keep (tb := fun W' => rdS T W' b) (Wout := W) hs hf hex hN hi hln ⟨hg, hdb, .inl hmc⟩ tk hb (ts := fun a cls d => tAsg (tVar i) (gName j)) fun a oe cls d pn hz hd => pss_one (ps_set (X := X.suite a ((a, oe) :: pn)) (i := j) hN hj (.inl hly) (pe_var (X := X.suite a ((a, oe) :: pn)) hi hvn hdn hdc) hsw (.inl (hfn y)))) fun D st H ⟨w, ρ, s, e, q, p⟩ => ?_
  refine ⟨w, ρ, s, e, q, ?_⟩
  unfold tryKeepS at p
  revert p
  cases b ρ s with
  | nx r s1 => exact fun p => p
  | rt v s1 => exact fun p => p
  | bk r s1 => exact fun p => p
  | ct r s1 => exact fun p => p
  | stuck => exact fun p => p
  | exc x0 r s1 =>
    intro p w1 cls d st1 H1 l1 xe e1 r1
    obtain ⟨c, ns, xs, fs, rfl, rfl, h3, h4, h5⟩ := xe
    dsimp only at p
    split at p
    · rename_i hc
      refine ⟨T.sub c k, by rw [hK]; exact E.ma c k hc.1 hk, fun hb a ha => ?_, fun hb => ?_⟩
      · rw [if_pos hb] at p
        have il : i < st1.length := by
          rw [← e1.len]
          exact hc.2
        refine ⟨.ref a, by rw [List.getElem?_set_self il], ?_⟩
        obtain ⟨l2, r2⟩ := upd_held r1 ha (ExA (.ref (T.ct c)) d a)
        refine p _ _ _ (l1.trans l2) (RE.setN (RE.set (RE.setN (e1.mono l2)) j ?_)) r2
        show R T _ (.exc c ns xs) _
        unfold R
        refine ⟨a, d, fs, rfl, upd_same, ?_, h4, Rs.mono l2.g h5⟩
        rcases h3 with h3 | ⟨dd, h3, h6⟩
        · exact .inl h3
        · exact .inr ⟨dd, h3, l2.g _ _ h6⟩
      · rw [if_neg (by rw [hb]; exact Bool.false_ne_true)] at p
        exact p w1 _ _ st1 H1 l1 ⟨c, ns, xs, fs, rfl, rfl, h3, h4, h5⟩ e1 r1
    · exact p.elim
end
end FL

set_option Elab.async false
set_option linter.all false
set_option maxRecDepth 100000
set_option maxHeartbeats 400000
namespace FL
open PySem PySem.Spec PyProof.Rows L2
section
variable {T : Tx} {X : Cx} {W : WX} {ex : Nat → Bool}
/-! ### a held exception's field -/
def getN : List Str → List D → Str → Option D
  | n :: ns, v :: vs, f => if f = n then some v else getN ns vs f
  | _, _, _ => none
theorem getN_ok {G : Hp} {f : Str} : ∀ {ns : List Str} {xs : List D} {fs : List (Str × V)} {x : D}, fs.map (·.1) = ns → Rs T G xs (fs.map (·.2)) → getN ns xs f = some x → ∃ v, fs.lookup f = some v ∧ R T G x v
  | n :: ns, y :: ys, [], x, h1, _, _ => by cases h1
  | n :: ns, y :: ys, (m, u) :: fs, x, h1, h2, h3 => by
    have h1' : m = n ∧ fs.map (·.1) = ns := by simpa using h1
    obtain ⟨rfl, h1'⟩ := h1'
    unfold Rs at h2
    obtain ⟨v, r, e1, e2, e3⟩ := h2
    cases e1
    unfold getN at h3
    by_cases hf : f = m
    · rw [if_pos hf] at h3
      cases h3
      exact ⟨u, by simp [List.lookup, hf], e2⟩
    · rw [if_neg hf] at h3
      obtain ⟨v, k1, k2⟩ := getN_ok (ns := ns) h1' e3 h3
      have hf' : (f == m) = false := by simpa using hf
      exact ⟨v, by simp [List.lookup, hf', k1], k2⟩
  | [], _, _, _, _, _, h => by simp [getN] at h
  | _ :: _, [], _, _, _, _, h => by simp [getN] at h
def excF (ex : Nat → Bool) (n : Str) (f : FE) : FE := fun ρ s => (f ρ s).bind fun x s1 => match x with
  | .d (.exc c ns vs) => if ex c = true then (match getN ns vs n with | some v => .ok (.d v) s1 | none => .stuck) else .stuck
  | _ => .stuck
theorem pf_excF {e : Expr} {f : FE} {pos : Pos} (E : TxEx T ex) (hK : X.K = T.K) (he : PF T X W e f) (hb : attributeBase e "value" X.env (eval e X.env) = eval e X.env := by rfl) : PF T X W (.Attribute e "value" pos) (excF ex "value" f) := ⟨fun pins s σ H Q I h => by
  refine attr_of hb (thn (he.run pins s σ H (fun u H1 => ∃ (a C dd : Addr) (fs : List (Str × V)) (v : V), u = .ref a ∧ ExK T.K C ∧ H1 a = some (ExA (.ref C) (some dd) a) ∧ H1 dd = some (.xd fs) ∧ fs.lookup ("value" : Str) = some v ∧ Q v H1) I ?_) fun u s1 hh => ?_)
  · obtain ⟨w, ρ, s0, e0, q, p⟩ := h
    refine rdE_mono (postE_bind e0 q p) fun u H1 ⟨w1, x, s1, l1, e1, x1, r1, p1⟩ => ?_
    split at p1
    · rename_i c ns vs
      split at p1
      · rename_i hc
        split at p1
        · rename_i v hv
          have x1' : R T w1.G (.exc c ns vs) u := x1
          unfold R at x1'
          obtain ⟨a, d, fs, k1, k2, k3, k4, k5⟩ := x1'
          obtain ⟨v', hl, rv⟩ := getN_ok k4 k5 hv
          rcases k3 with ⟨_, k3⟩ | ⟨dd, k3, k6⟩
          · rw [k3] at hv
            simp [getN] at hv
          · subst k3
            exact ⟨a, _, dd, fs, v', k1, E.k c hc, r1.g _ _ k2, r1.g _ _ k6, hl, postE_ok p1 rv r1⟩
        · exact p1.elim
      · exact p1.elim
    · exact p1.elim
  · obtain ⟨x, H1, I1, rx, a, C, dd, fs, v, rfl, K, h1, h2, h3, q⟩ := hh
    obtain rfl : u = Value.ref a := rx
    obtain ⟨⟨oe, e1, ⟨e2, e3⟩, vs, e4⟩, _, _⟩ := (show (∃ (oe : Obj), s1.heap.get? a = some oe ∧ Zc (.ref C) (some dd) oe ∧ ∃ vs, oe.data = .fields vs) ∧ _ from I1.hok a _ h1)
    obtain ⟨mA, hns, hr⟩ := (show ∃ mA, s1.heap.Ns1 dd mA ∧ ∀ f : Str, RelO (List.lookup f fs) (mA f) from I1.hok dd _ h2)
    obtain ⟨od, ho, hl⟩ := lookIn_ns hns
    obtain ⟨u, hu, ru⟩ := RelO.some_of (v := v) (o := mA "value") (by rw [← h3]; exact hr "value")
    have J : PySem.W.InstAt s1.heap a oe C (some od) := ⟨e1, e2, by unfold PySem.W.notCls; rw [e4], by rw [e3]; exact ho⟩
    rw [← hK] at K
    exact HandSPX.exc_get I1.kIn J K.ga K.gg K.exC (PySem.W.findObj_own K.hdC K.noV rfl (by rw [hl, hu])) (handed_of ru) ⟨v, H1, I1.tok _, ru, q⟩⟩
/-! ### xs.append(e), xs[i] = e -/
def appF (f : FE) (g : FA) : FE := fun ρ s => (f ρ s).bind fun x s1 => match x with
  | .ref i => match s1[i]? with
    | some (.lst _) => (g ρ s1).bind fun ys s2 => match ys with
      | [.d y] => match s2[i]? with
        | some (.lst xs) => if xs.length < 1000000 then .ok (.d .non) (s2.set i (.lst (xs ++ [y]))) else .stuck
        | _ => .stuck
      | _ => .stuck
    | _ => .stuck
  | _ => .stuck
theorem pf_append {o e : Expr} {f : FE} {g : FA} {apos cpos : Pos} (hK : X.K = T.K) (ho : PF T X W o f) (ha : PFA T X W [e] g) (hb : attributeBase o "append" X.env (eval o X.env) = eval o X.env := by rfl)
    (h1 : ((((backTo cpos (starEach [e] X.env)).all fun x => !x.fst) && (backToKw cpos (keywordEach [] X.env)).all fun x => x.fst.isSome) && decide (([e].length + ([] : List Keyword).length + if ([] : List Keyword).isEmpty = true then 0 else 1) < 30)) = true := by rfl) (h2 : (apos.endLine == cpos.line) = true := by rfl)
    (h3 : starEach [e] X.env = (false, eval e X.env) :: starEach [] X.env := by rfl) (h4 : (backTo cpos (starEach [] X.env)).any (·.1) = false := by rfl) : PF T X W (.Call (.Attribute o "append" apos) [e] [] cpos) (appF f g) :=
  PE.imp (pe_bm PySem.F.plainAttrs_list PySem.F.slot_list_append PySem.F.type_list_append mt_append ho ha hb h1 h2 h3 h4) fun st H Q ⟨w, ρ, s, e0, q, p⟩ => rdE_mono (postE_bind e0 q p) fun u H1 ⟨w1, x, s1, l1, e1, x1, r1, p1⟩ => by
    split at p1
    · rename_i i
      split at p1
      · rename_i xs0 hs
        obtain ⟨a, k1, k2⟩ := x1
        subst k2
        obtain ⟨ho, m1, ⟨vs, m2, m3⟩, m4, m5⟩ := r1.live i _ a hs (by simp) k1
        subst m2
        refine ⟨.inl ⟨rfl, vs, .of m1⟩, rdA_mono (postE_bindL e1 r1 p1) fun us H2 ⟨w2, ys, s2, l2, e2, x2, r2, p2⟩ => ?_⟩
        split at p2
        · rename_i y
          split at p2
          · rename_i xs hs2
            split at p2
            · rename_i hl
              obtain ⟨v, rfl, x3⟩ := rxs1 x2
              have k3 := l2.at k1
              obtain ⟨ho2, n1, ⟨vs2, n2, n3⟩, n4, n5⟩ := r2.live i _ a hs2 (by simp) k3
              subst n2
              have x3' : R T w2.G y v := x3
              exact ⟨a, vs2, v, rfl, rfl, n1, by rw [← n3.length, sizeLine_eq]; omega, postE_ok p2 rX_non (r2.write hs2 (by simp) k3 ⟨_, rfl, n3.append (.one x3')⟩)⟩
            · exact p2.elim
          · exact p2.elim
        · exact p2.elim
      · exact p1.elim
    · exact p1.elim
def setIxS (fv fo fi : FE) : FS := fun ρ s => (fv ρ s).bindS ρ fun v s1 => (fo ρ s1).bindS ρ fun o s2 => (fi ρ s2).bindS ρ fun k s3 => match v with
  | .d v => match o with
    | .ref i => match k with
      | .d (.int k) => match s3[i]? with
        | some (.lst xs) => match ixN xs.length k with
          | some j => .nx ρ (s3.set i (.lst (xs.set j v)))
          | none => .stuck
        | _ => .stuck
      | _ => .stuck
    | _ => .stuck
  | _ => .stuck
theorem pfs_setIx {o ix e : Expr} {fv fo fi : FE} {p1 pos : Pos} (he : PF T X W e fv) (ho : PF T X W o fo) (hi : PF T X W ix fi)
    (ha : ∀ v, assign (.Subscript o ix p1) X.env v = (do
      let ov ← holding [v] (eval o X.env)
      let iv ← holding [v, ov] (eval ix X.env)
      standAt p1
      holding [v, ov, iv] (setItem ov iv v)
      release [v, ov, iv] []) := by exact fun _ => rfl)
    (hs : swapsWithSole [.Subscript o ix p1] e pos.line X.env = pure false := by rfl) (hw : swappedStores [.Subscript o ix p1] e X.env = pure none := by rfl) (h1 : (assignEach [.Subscript o ix p1] X.env).map (·.2) = [assign (.Subscript o ix p1) X.env] := by rfl) :
    PFS T X W (.Assign [.Subscript o ix p1] e pos) (setIxS fv fo fi) :=
  PS.imp (ps_asg he (pg_sub ho hi set_list ha) hs hw h1) fun D st H ⟨w, ρ, s, e0, q, p⟩ => rdE_mono (postS_bind e0 q p) fun u H1 ⟨w1, v, s1, l1, e1, x1, r1, p1⟩ =>
    rdE_mono (postS_bind e1 r1 p1) fun u2 H2 ⟨w2, o', s2, l2, e2, x2, r2, p2⟩ => rdE_mono (postS_bind e2 r2 p2) fun u3 H3 ⟨w3, k', s3, l3, e3, x3, r3, p3⟩ => by
      cases v with
      | ref _ => exact p3.elim
      | d v =>
        cases o' with
        | d _ => exact p3.elim
        | ref i =>
          dsimp only at p3
          split at p3
          · rename_i k
            split at p3
            · rename_i xs hs3
              split at p3
              · rename_i j hj
                obtain ⟨a, k1, k2⟩ := x2
                subst k2
                cases X_int x3
                have k3 := l3.at k1
                obtain ⟨ho2, n1, ⟨vs2, n2, n3⟩, n4, n5⟩ := r3.live i _ a hs3 (by simp) k3
                subst n2
                have x1' : R T w3.G v u := R.mono (l2.trans l3).g x1
                exact ⟨a, vs2, k, j, rfl, rfl, n1, by rw [← n3.length]; exact hj, p3 w3 st _ (.refl _) e3 (r3.write hs3 (by simp) k3 ⟨_, rfl, n3.set x1' j⟩)⟩
              · exact p3.elim
            · exact p3.elim
          · exact p3.elim
end
end FL

set_option Elab.async false
set_option linter.all false
set_option maxRecDepth 100000
set_option maxHeartbeats 400000
namespace FL
open PySem PySem.Spec PyProof.Rows L2
/-! ### calls by keywords -/
def permL {α : Type} (pm : List Nat) (xs : List α) : List α := pm.filterMap (xs[·]?)
theorem vals_perm {vs : List V} {us : List Value} (h : Vals vs us) : ∀ pm : List Nat, Vals (permL pm vs) (permL pm us)
  | [] => .nil
  | i :: pm => by
    have ih := vals_perm h pm
    have hl := h.length
    unfold permL at ih ⊢
    rw [List.filterMap_cons, List.filterMap_cons]
    cases e : vs[i]? with
    | none =>
      have e2 : us[i]? = none := by
        rw [List.getElem?_eq_none_iff] at e ⊢
        omega
      rw [e2]
      exact ih
    | some v =>
      obtain ⟨u, e2, r⟩ := Vals.get h e
      rw [e2]
      exact .cons r ih
section
variable {T : Tx}
theorem RXs.get {w : Wd} : ∀ {xs : List Xv} {vs : List V} {i : Nat} {x : Xv}, RXs T w xs vs → xs[i]? = some x → ∃ v, vs[i]? = some v ∧ RX T w x v
  | [], _, _, _, _, h => by simp at h
  | d :: ds, vs, 0, x, ⟨v, r, e1, e2, e3⟩, h => by
    subst e1
    simp at h
    subst h
    exact ⟨v, rfl, e2⟩
  | d :: ds, vs, i + 1, x, ⟨v, r, e1, e2, e3⟩, h => by
    subst e1
    obtain ⟨u, q1, q2⟩ := RXs.get (i := i) (x := x) e3 (by simpa using h)
    exact ⟨u, by simpa using q1, q2⟩
theorem rxs_perm {w : Wd} {xs : List Xv} {vs : List V} (h : RXs T w xs vs) : ∀ pm : List Nat, RXs T w (permL pm xs) (permL pm vs)
  | [] => rfl
  | i :: pm => by
    have ih := rxs_perm h pm
    have hl := h.length
    unfold permL at ih ⊢
    rw [List.filterMap_cons, List.filterMap_cons]
    cases e : xs[i]? with
    | none =>
      have e2 : vs[i]? = none := by
        rw [List.getElem?_eq_none_iff] at e ⊢
        omega
      rw [e2]
      exact ih
    | some v =>
      obtain ⟨u, e2, r⟩ := RXs.get h e
      rw [e2]
      exact .cons r ih
end
/-- how keywords are bound -/
structure KB (K : PySem.W.Frag) (fd : FuncData) (ps ks : List Str) (pm : List Nat) : Prop where
  to : ∀ (s : Shared) (ws : List Value), K.In s.heap → ws.length = ks.length → BindsTo s fd ⟨[], ks.zip ws⟩ (ps.zip (permL pm ws))
theorem kb_of {K : PySem.W.Frag} {x qual : Str} {params : Arguments} {body : List Stmt} {scope : Scope} {kws : List (Str × V)} {f : Addr} {fd : FuncData} {ps ks : List Str} {pm : List Nat} (F : FunD K x qual params body scope [] kws f fd)
    (h : ∀ (kV doc pm' : Value) (an : Option Addr) (cdv ct : Value) (ws : List Value), ws.length = ks.length → bindArgs (PySem.W.fnOf x qual params body scope .none kV doc pm' an cdv ct) ⟨[], ks.zip ws⟩ = pure (ps.zip (permL pm ws))) : KB K fd ps ks pm := by
  obtain ⟨oc, od, dV, kV, doc, pm', an, cdv, ct, osl, rfl, lk, hcd, hd, _⟩ := F.ex
  rcases hd with ⟨_, rfl⟩ | ⟨hd, _⟩
  · exact ⟨fun s ws _ hw => BindsTo.of_eq (h _ _ _ _ _ _ ws hw)⟩
  · exact absurd rfl hd
section
variable {T : Tx} {X : Cx} {W : WX}
abbrev PFK (T : Tx) (X : Cx) (W : WX) (kws : List Keyword) (g : FA) : Prop := PK X kws (rdA T W g)
theorem PK.imp {kws : List Keyword} {t t' : TA} (h : PK X kws t) (k : ∀ st H Q, t' st H Q → t st H Q) : PK X kws t' := ⟨fun pos pins s σ H Q I q => h.run pos pins s σ H Q I (k _ _ _ q)⟩
theorem pfk_nil : PFK T X W [] nilA := PK.imp pk_nil fun st H Q ⟨w, ρ, s, e, q, p⟩ => p w [] H (.refl _) rfl q
theorem pfk_cons {kpos : Pos} {e : Expr} {kws : List Keyword} {f : FE} {g : FA} {nm : Option Str} (ha : PF T X W e f) (hr : PFK T X W kws g) : PFK T X W (⟨nm, e, kpos⟩ :: kws) (consA f g) :=
  PK.imp (pk_cons ha hr) fun st H Q ⟨w, ρ, s, e, q, p⟩ => rdE_mono (postA_bind e q p) fun u H1 ⟨w1, x, s1, l1, e1, x1, r1, p1⟩ => rdA_mono (postA_bindL e1 r1 p1) fun us H2 ⟨w2, xs, s2, l2, e2, x2, r2, p2⟩ =>
    p2 w2 (u :: us) H2 (.refl _) (.cons (x1.mono l2) x2) r2
def callKF (m : Bool) (n k : Nat) (F : Fn) (pm : List Nat) (g : FA) : FE := fun ρ s => (g ρ s).bind fun xs s1 => if xs.length = k ∧ (permL pm xs).length = n then runC m F (permL pm xs) s1 else .stuck
theorem pf_callK0 {k : Nat} {f : Addr} {fd : FuncData} {ps ks : List Str} {F : Fn} {pm : List Nat} {x : Str} {p pos : Pos} {kws : List Keyword} {g : FA} (m : Bool)
    (G : FnG X.prog X.w X.K X.mg X.base k f fd ps (spF T ps.length F)) (hr : RoomG k X.A) (tk : Takes X W) (hm : X.mg x = some (.ref f)) (hk : PySem.W.keepIn X.K (.ref f) = true) (hb : KB X.K fd ps ks pm) (ha : PFK T X W kws g) (hg : Gl X x := by rfl) (hdb : (x == ("__debug__" : Str)) = false := by decide)
    (hall : ((backToKw pos (keywordEach kws X.env)).all fun x => x.fst.isSome) = true := by rfl) (hks : List.filterMap (fun x => x.fst) (backToKw pos (keywordEach kws X.env)) = ks := by rfl)
    (hpl : (((backTo pos (starEach [] X.env)).any fun x => x.fst) || (backToKw pos (keywordEach kws X.env)).any fun x => x.fst.isNone) = false := by rfl) :
    PF T X W (.Call (.Name x p) [] kws pos) (callKF m ps.length ks.length F pm g) := ⟨fun pins s σ H Q I h => by
  refine wpAny_Call_Name_kw (ld_glob I hg hm ?_ hdb)
  refine PySem.W.callWith_KW0 (h₀ := X.base) I.ok.mod.kin hk hall ?_ hpl
  obtain ⟨w, ρ, s0, e0, q0, p0⟩ := h
  refine thn (ha.run pos pins s σ H _ I (postE_bindL e0 q0 p0)) fun us s1 ⟨vs, H1, I1, r, w1, xs, s2, l1, e1, x1, r1, p1⟩ => ⟨I1.kIn, ?_⟩
  rw [hks]
  split at p1
  · rename_i hlen
    have hl := x1.length
    have hu : us.length = ks.length := by rw [← hlen.1, hl, r.length]
    have hsp := runC_ok (W := W) (st := σ) (n := ps.length) hlen.2 (rxs_perm x1 pm) r1 p1
    have ra : Vals (permL pm vs) (permL pm us) := vals_perm r pm
    refine wpAny_call (codeAny_mono (G.run X.A X.stack s1 H1 ⟨[], ks.zip us⟩ (permL pm us) (permL pm vs) Q (WE W σ) hr I1.env0 (hb.to s1 us I1.kIn hu) ra hsp) fun res s' hq => ?_)
    cases res with
    | error e => exact passAt tk σ pins H1 s1 e s' I1 hq
    | ok fl =>
      cases fl with
      | ret u => exact I1.after hq
      | next => exact (show False from hq).elim
      | brk => exact (show False from hq).elim
      | cont => exact (show False from hq).elim
  · exact p1.elim⟩
/-! ### repr -/
def rRepr (K : PySem.W.Frag) : RN := fun xs H Q => ∃ x d, xs = [x] ∧ Dp K H x d ∧ d.canLay0 = true ∧ d.showable = true ∧ d.depth ≤ 32 ∧ d.shown.length ≤ sizeLine ∧ Q (.str d.shown) H
theorem call_reprD (hgd : X.A.guards = some []) (hu : X.A.units + 64 < cLine) : CallR X (.builtin "repr") (rRepr X.K) := by
  rintro pins s σ H xs us Q I r ⟨x, d, rfl, dp, hcl, hsh, hdp, hln, q⟩
  cases r with
  | cons ra r =>
    cases r
    cases dp with
    | non =>
      have e : _ = Value.none := ra
      subst e
      refine PySem.P.repr_of_none ⟨.str PyData.none.shown, H, I.tok _, ⟨s.toks, ?_⟩, q⟩
      rw [PyData.shown.eq_1]
    | bl b =>
      have e : _ = Value.bool b := ra
      subst e
      refine PySem.P.repr_of_bool ⟨.str (PyData.bool b).shown, H, I.tok _, ⟨s.toks, ?_⟩, q⟩
      rw [PyData.shown.eq_2]
    | int i =>
      obtain ⟨t, rfl⟩ := ra
      rw [PyData.showable.eq_def] at hsh
      refine PySem.P.repr_of_int (by simpa using hsh) ⟨.str (PyData.int i).shown, H, I.tok _, ⟨s.toks, ?_⟩, q⟩
      rw [PyData.shown.eq_3]
    | str y =>
      obtain ⟨t, rfl⟩ := ra
      rw [PyData.shown.eq_4] at hln
      refine PySem.P.repr_of_str ⟨.str (PyData.str y).shown, H, I.tok _, ⟨s.toks, ?_⟩, q⟩ hln
      rw [PyData.shown.eq_4]
    | lst a1 a2 =>
      obtain ⟨as, rd⟩ := Dp.reads I _ _ _ (.lst a1 a2) ra
      have e : _ = Value.ref _ := ra
      subst e
      exact repr_of_reads' rd hsh (PyData.noDict_hsm (PyData.hasDict_of_canLay _ hcl)) hgd (by omega) (fun _ _ z => z) (fun h' u tk k => ⟨.str _, H, I.kept (t' := tk) k, ⟨_, rfl⟩, q⟩) hln
    | tup a1 a2 =>
      obtain ⟨as, rd⟩ := Dp.reads I _ _ _ (.tup a1 a2) ra
      have e : _ = Value.ref _ := ra
      subst e
      exact repr_of_reads' rd hsh (PyData.noDict_hsm (PyData.hasDict_of_canLay _ hcl)) hgd (by omega) (fun _ _ z => z) (fun h' u tk k => ⟨.str _, H, I.kept (t' := tk) k, ⟨_, rfl⟩, q⟩) hln
theorem repr_ok : OpN T W (rRepr T.K) reprX := by
  intro st w xs vs s H Q hx r p
  unfold reprX at p
  split at p
  · rename_i x
    split at p
    · rename_i a ha
      split at p
      · rename_i h
        rw [Bool.and_eq_true, Bool.and_eq_true, decide_eq_true_iff] at h
        obtain ⟨v, rfl, e⟩ := rxs1 hx
        have hf := flatS_ok h.1.1
        exact ⟨v, toP a, rfl, eqView_ok rfl r e ha h.1.1, hf.1, h.1.2, hf.2, h.2, postE_ok p rX_str r⟩
      · exact p.elim
    · exact p.elim
  · exact p.elim
end
end FL

set_option Elab.async false
set_option linter.all false
set_option maxRecDepth 100000
set_option maxHeartbeats 400000
namespace FL
open PySem PySem.Spec PyProof.Rows L2
/-! ### contexts by their parts -/
structure Qx where
  A : Around
  s0 : Shared
  H0 : Hp
  L : Addr
  glob : Addr
  cells : List (Str × Addr)
  qual : Str
  func : Option Addr
  code : Value
  bi : Addr
  outer : List Env
  pn : List (Addr × Obj)
  xe : Value → Shared → Prop
abbrev enX (sc : Scope) (q : Qx) : Env := { scope := sc, locals := q.L, globals := q.glob, cells := q.cells, qual := q.qual, func := q.func, code := q.code, frame := some q.L, builtins := q.bi }
abbrev mkX (P : Program) (w : World) (K : PySem.W.Frag) (mg : Str → Option Value) (base : Heap) (N : List Str) (sc : Scope) (q : Qx) : Cx :=
  { prog := P, w := w, K := K, mg := mg, base := base, A := q.A, N := N, s_0 := q.s0, H_0 := q.H0, env := enX sc q, outer := q.outer, stack := enX sc q :: q.outer, ex := [], fn := fun _ => true, calm := true, pn := q.pn, xe := q.xe }
section
variable {T : Tx} {P : Program} {w : World} {K : PySem.W.Frag} {mg : Str → Option Value} {base : Heap}
theorem fn_mk2 {k : Nat} {x qual : Str} {params : Arguments} {body : List Stmt} {scope : Scope} {dvs : List V} {kws : List (Str × V)} {f : Addr} {fd : FuncData} {N ps : List Str} {fs : FS}
    (F : FunD K x qual params body scope dvs kws f fd) (S : FnScope N ps scope)
    (h : ∀ (q : Qx) (W : WX), RoomG k q.A → Takes (mkX P w K mg base N scope q) W → PassesOwn (model P w) q.A (enX scope q) q.xe → PFSs T (mkX P w K mg base N scope q) W body fs) :
    FnG P w K mg base (k + 1) f fd ps (spF T ps.length (bodyF (N.length - ps.length) fs)) := by
  obtain ⟨oc, od, dV, kV, doc, pm, an, cdv, ct, osl, rfl, lk, hcd, _, _⟩ := F.ex
  refine fnG_of lk hcd S (fun vs H Q E ⟨w, ds, s, h1, h2, _⟩ => by rw [← h2.length]; exact h1) fun A outer s H vs Q E hr ⟨w0, ds, s0, h1, h2, h3, h4⟩ => ?_
  have hl := h2.length
  refine ⟨_, h ⟨A.deeper (envOfC qual scope s.heap.objs.size f cdv), s, H, (envOfC qual scope s.heap.objs.size f cdv).locals, (envOfC qual scope s.heap.objs.size f cdv).globals, (envOfC qual scope s.heap.objs.size f cdv).cells, (envOfC qual scope s.heap.objs.size f cdv).qual, (envOfC qual scope s.heap.objs.size f cdv).func, (envOfC qual scope s.heap.objs.size f cdv).code, (envOfC qual scope s.heap.objs.size f cdv).builtins, outer, [], (cxOf (L2.CX P w) P w K mg base N qual scope f cdv A outer s H E).xe⟩
    (fun cls d _ H => E cls d H) hr (takes_of rfl rfl rfl rfl) (passes_of (X := cxOf (L2.CX P w) P w K mg base N qual scope f cdv A outer s H E) rfl), ?_⟩
  refine ⟨w0, ds.map some ++ List.replicate (N.length - ps.length) none, s0, re_start h2 (by rw [← hl, h1]), h3, ?_⟩
  unfold bodyF at h4
  revert h4
  cases fs (ds.map some ++ List.replicate (N.length - ps.length) none) s0 with
  | nx r s' => exact fun p w' st H' l e1 e2 => p w' _ H' l rX_non e2
  | rt v s' => exact fun p w' u H' l e1 e2 => p w' u H' l e1 e2
  | exc e r s' => exact fun p w' cls d st H' l e1 _ e2 => p w' cls d H' l e1 e2
  | bk r s' => exact fun p => p.elim
  | ct r s' => exact fun p => p.elim
  | stuck => exact fun p => p.elim
/-- a def of the text -/
structure Def (T : Tx) (P : Program) (w : World) (K : PySem.W.Frag) (mg : Str → Option Value) (base : Heap) (k : Nat) (x : Str) (ps : List Str) (dv : List D) (F : Fn) : Prop where
  ex : ∃ f fd dvs ds, FnG P w K mg base k f fd ps (spF T ps.length F) ∧ mg x = some (.ref f) ∧ PySem.W.keepIn K (.ref f) = true ∧ Binds K fd ps ds ∧ Vals dvs ds ∧ ∀ G, Rs T G dv dvs
structure DefK (T : Tx) (P : Program) (w : World) (K : PySem.W.Frag) (mg : Str → Option Value) (base : Heap) (k : Nat) (x : Str) (ps ks : List Str) (pm : List Nat) (F : Fn) : Prop where
  ex : ∃ f fd, FnG P w K mg base k f fd ps (spF T ps.length F) ∧ mg x = some (.ref f) ∧ PySem.W.keepIn K (.ref f) = true ∧ KB K fd ps ks pm
end
/-- what rules ask of a context -/
structure Cn (T : Tx) (X : Cx) (W : WX) (k : Nat) : Prop where
  hK : X.K = T.K
  hr : RoomG k X.A
  tk : Takes X W
  calm : X.calm = true
  nd : X.N.Nodup
theorem Cn.blk {T : Tx} {X : Cx} {W : WX} {k : Nat} (C : Cn T X W k) (s : Shared) (H : Hp) (sc : Scope) (env : Env) (fp : List Addr) : Cn T (X.blk s H sc env fp) W0 k := ⟨C.hK, C.hr, takes0, C.calm, C.nd⟩
theorem Cn.un {T : Tx} {X : Cx} {W : WX} {k : Nat} (C : Cn T X W k) : X.A.units + 64 < cLine := by
  have := C.hr.room.un
  omega
section
variable {T : Tx} {X : Cx} {W : WX} {k : Nat}
theorem pf_callD {j : Nat} {ps : List Str} {F : Fn} {dv : List D} {x : Str} {p pos : Pos} {e : Expr} {es : List Expr} {g : FA} (m : Bool) (D : Def T X.prog X.w X.K X.mg X.base j x ps dv F) (C : Cn T X W k) (ha : PFA T X W (e :: es) g) (hgl : LenA g (e :: es).length) (hj : j ≤ k := by decide) (hl : (e :: es).length + dv.length = ps.length := by rfl)
    (hg : Gl X x := by rfl) (hdb : (x == ("__debug__" : Str)) = false := by decide) (he : starEach (e :: es) X.env = (false, eval e X.env) :: starEach es X.env := by rfl) (hpl : (backTo pos (starEach es X.env)).any (·.1) = false := by rfl) :
    PF T X W (.Call (.Name x p) (e :: es) [] pos) (callF m F dv g) := by
  obtain ⟨f, fd, dvs, ds, G, hm, hk, hb, hd, hv⟩ := D.ex
  exact pf_call m (G.mono hj) C.hr C.tk hm hk hb hd hv ha hl hg hdb he hpl hgl
theorem pf_callD0 {j : Nat} {ps : List Str} {F : Fn} {dv : List D} {x : Str} {p pos : Pos} (m : Bool) (D : Def T X.prog X.w X.K X.mg X.base j x ps dv F) (C : Cn T X W k) (hj : j ≤ k := by decide) (hl : dv.length = ps.length := by rfl)
    (hg : Gl X x := by rfl) (hdb : (x == ("__debug__" : Str)) = false := by decide) : PF T X W (.Call (.Name x p) [] [] pos) (callF m F dv nilA) := by
  obtain ⟨f, fd, dvs, ds, G, hm, hk, hb, hd, hv⟩ := D.ex
  exact pf_call0 m (G.mono hj) C.hr C.tk hm hk hb hd hv hl hg hdb
theorem pf_callDK {j : Nat} {ps ks : List Str} {pm : List Nat} {F : Fn} {x : Str} {p pos : Pos} {kws : List Keyword} {g : FA} (m : Bool) (D : DefK T X.prog X.w X.K X.mg X.base j x ps ks pm F) (C : Cn T X W k) (ha : PFK T X W kws g) (hj : j ≤ k := by decide) (hg : Gl X x := by rfl) (hdb : (x == ("__debug__" : Str)) = false := by decide)
    (hall : ((backToKw pos (keywordEach kws X.env)).all fun x => x.fst.isSome) = true := by rfl) (hks : List.filterMap (fun x => x.fst) (backToKw pos (keywordEach kws X.env)) = ks := by rfl)
    (hpl : (((backTo pos (starEach [] X.env)).any fun x => x.fst) || (backToKw pos (keywordEach kws X.env)).any fun x => x.fst.isNone) = false := by rfl) :
    PF T X W (.Call (.Name x p) [] kws pos) (callKF m ps.length ks.length F pm g) := by
  obtain ⟨f, fd, G, hm, hk, hb⟩ := D.ex
  exact pf_callK0 m (G.mono hj) C.hr C.tk hm hk hb ha hg hdb hall hks hpl
/-! ### a changing list becomes plain data -/
def frzO (j : Nat) (d : D) : Option Xv → Option Xv
  | some (.ref k) => if k = j then some (.d d) else some (.ref k)
  | o => o
def frzS (i : Nat) (a : FS) : FS := fun ρ s => match ρ[i]? with
  | some (some (.ref j)) => match s[j]? with
    | some (.lst xs) => a (ρ.map (frzO j (.lst xs))) (s.set j .dead)
    | _ => .stuck
  | some (some (.d _)) => a ρ s
  | _ => .stuck
theorem rs_freeze {w : Wd} {s : Sto} {H : Hp} {j : Nat} {a : Addr} {xs : List D} (r : RS T w s H) (e : s[j]? = some (.lst xs)) (ea : w.io[j]? = some a) : ∃ vs, Rs T w.G xs vs ∧ Le w { w with G := upd w.G a (.lst vs) } ∧ RS T { w with G := upd w.G a (.lst vs) } (s.set j .dead) H := by
  obtain ⟨ho, h1, ⟨vs, h2, h3⟩, h4, h5⟩ := r.live j _ a e (by simp) ea
  subst h2
  have sg : Same w.G (upd w.G a (.lst vs)) := fun b u q => by rw [upd_ne (ne_of_none q h4)]; exact q
  have back : ∀ {i : Nat} {u : O}, (s.set j .dead)[i]? = some u → u ≠ .dead → i ≠ j ∧ s[i]? = some u := fun {i u} q1 q2 => by
    by_cases hi : j = i
    · subst hi
      have il : j < s.length := (List.getElem?_eq_some_iff.mp e).1
      rw [List.getElem?_set_self il] at q1
      cases q1
      exact absurd rfl q2
    · rw [List.getElem?_set_ne hi] at q1
      exact ⟨fun z => hi z.symm, q1⟩
  refine ⟨vs, h3, ⟨sg, rfl, [], by simp⟩, ⟨fun b u q => ?_, r.z, fun b u q => ?_, by simp [r.len], fun i u b q1 q2 q3 => ?_, fun i k u v b q1 q2 q3 q4 q5 q6 => ?_⟩⟩
  · by_cases hb : b = a
    · subst hb
      have q' : upd w.G b (.lst vs) b = some u := q
      rw [upd_same] at q'
      rw [h1]
      exact q'
    · have q' : upd w.G a (.lst vs) b = some u := q
      rw [upd_ne hb] at q'
      exact r.g _ _ q'
  · have hb : b ≠ a := ne_of_none q h5
    show upd w.G a (.lst vs) b = none
    rw [upd_ne hb]
    exact r.gz _ _ q
  · obtain ⟨hi, q⟩ := back q1 q2
    have q3' : w.io[i]? = some b := q3
    obtain ⟨ho, k1, k2, k3, k4⟩ := r.live i u b q q2 q3'
    have hb : b ≠ a := fun z => hi (r.inj i j u _ a q q2 e (by simp) (by rw [← z]; exact q3') ea)
    exact ⟨ho, k1, RO.mono sg k2, by show upd w.G a (.lst vs) b = none; rw [upd_ne hb]; exact k3, k4⟩
  · exact r.inj i k u v b (back q1 q2).2 q2 (back q3 q4).2 q4 q5 q6
theorem pfs_frz (i : Nat) {st : List Stmt} {a : FS} (h : PFSs T X W st a) : PFSs T X W st (frzS i a) := PSs.imp h fun E σ H ⟨w, ρ, s, e, r, p⟩ => by
  unfold frzS at p
  split at p
  · rename_i j hj
    split at p
    · rename_i xs hs
      obtain ⟨u, e1, a0, e2, e3⟩ := e.at_ i _ hj
      obtain ⟨vs, k1, k2, k3⟩ := rs_freeze r hs e2
      refine ⟨_, _, _, ⟨by rw [List.length_map]; exact e.len, fun n y hy => ?_⟩, k3, PostS.mono k2 p⟩
      rw [List.getElem?_map] at hy
      cases q : ρ[n]? with
      | none => rw [q] at hy; cases hy
      | some o =>
        rw [q] at hy
        have hy' : frzO j (.lst xs) o = some y := by simpa using hy
        cases o with
        | none => cases hy'
        | some x =>
          obtain ⟨v, q1, q2⟩ := e.at_ n x q
          refine ⟨v, q1, ?_⟩
          cases x with
          | d x =>
            cases hy'
            exact RX.mono k2 q2
          | ref l =>
            unfold frzO at hy'
            dsimp only at hy'
            split at hy'
            · rename_i hl
              cases hy'
              subst hl
              obtain ⟨b, m1, m2⟩ := q2
              rw [e2] at m1
              cases m1
              show R T _ (.lst xs) v
              unfold R
              exact ⟨_, vs, m2, upd_same, Rs.mono k2.g k1⟩
            · cases hy'
              exact RX.mono k2 q2
    · exact p.elim
  · exact ⟨w, ρ, s, e, r, p⟩
  · exact p.elim
end
end FL

set_option Elab.async false
set_option linter.all false
set_option maxRecDepth 100000
set_option maxHeartbeats 400000
namespace FL
open PySem PySem.Spec PyProof.Rows L2
section
variable {T : Tx} {X : Cx} {W : WX} {k : Nat} {own ex : Nat → Bool}
/-! ### the rules of operators and built-ins, ready for use -/
theorem o_eq (C : Cn T X W k) : OpR X (compareOp .Eq) (rEqD T.K) := C.hK ▸ op_eqD C.un
theorem o_ne (C : Cn T X W k) : OpR X (compareOp .NotEq) (rNeD T.K) := C.hK ▸ op_neD C.un
theorem b_len (C : Cn T X W k) : CallR X (.builtin "len") (fun xs H Q => ∃ x n, xs = [x] ∧ LenV T.K x H n ∧ Q (.int n) H) := C.hK ▸ call_len
theorem b_sum (C : Cn T X W k) : CallR X (.builtin "sum") (rSum T.K) := C.hK ▸ cr_sum C.calm
theorem b_max (C : Cn T X W k) : CallR X (.builtin "max") (fun xs H Q => ∃ i j, xs = [.int i, .int j] ∧ Q (.int (if j > i then j else i)) H) := call_max2 C.calm
theorem b_min (C : Cn T X W k) : CallR X (.builtin "min") (fun xs H Q => ∃ i j, xs = [.int i, .int j] ∧ Q (.int (if j < i then j else i)) H) := call_min2 C.calm
theorem b_repr (C : Cn T X W k) : CallR X (.builtin "repr") (rRepr T.K) := C.hK ▸ call_reprD C.hr.gd C.un
theorem b_isi (C : Cn T X W k) : CallR X (.builtin "isinstance") (fun xs H Q => rIsEx T.K xs H Q ∨ rIsi T.K xs H Q) := C.hK ▸ callR_or call_isEx call_isi
theorem b_tuple (C : Cn T X W k) : CallR X (.type "tuple") (fun xs H Q => ∃ p ys, xs = [.ref p] ∧ ((SqL T.K H p ys ∧ ∀ l, H l = none → Q (.ref l) (upd H l (.tup ys))) ∨ (SqT T.K H p ys ∧ Q (.ref p) H))) := C.hK ▸ call_tuple_of
theorem b_list (C : Cn T X W k) : CallR X (.type "list") (fun xs H Q => ∃ p ys, xs = [.ref p] ∧ (SqL T.K H p ys ∨ SqT T.K H p ys) ∧ ∀ l, H l = none → Q (.ref l) (upd H l (.lst ys))) := C.hK ▸ call_list_of
theorem b_int (C : Cn T X W k) : CallR X (.type "int") (fun xs H Q => (∃ i, xs = [.int i] ∧ Q (.int i) H) ∨ ∃ k, xs = [.bl k] ∧ Q (.int (if k then 1 else 0)) H) := call_int1
end
theorem bt_len : bootBuiltins "len" = some (.builtin "len") := by first | rfl | decide +kernel | kernel_rfl
theorem bt_sum : bootBuiltins "sum" = some (.builtin "sum") := by first | rfl | decide +kernel | kernel_rfl
theorem bt_max : bootBuiltins "max" = some (.builtin "max") := by first | rfl | decide +kernel | kernel_rfl
theorem bt_min : bootBuiltins "min" = some (.builtin "min") := by first | rfl | decide +kernel | kernel_rfl
theorem bt_repr : bootBuiltins "repr" = some (.builtin "repr") := by first | rfl | decide +kernel | kernel_rfl
theorem bt_isinstance : bootBuiltins "isinstance" = some (.builtin "isinstance") := by first | rfl | decide +kernel | kernel_rfl
theorem bt_tuple : bootBuiltins "tuple" = some (.type "tuple") := by first | rfl | decide +kernel | kernel_rfl
theorem bt_list : bootBuiltins "list" = some (.type "list") := by first | rfl | decide +kernel | kernel_rfl
theorem bt_int : bootBuiltins "int" = some (.type "int") := by first | rfl | decide +kernel | kernel_rfl
theorem bt_bool : bootBuiltins "bool" = some (.type "bool") := by first | rfl | decide +kernel | kernel_rfl
theorem bt_str : bootBuiltins "str" = some (.type "str") := by first | rfl | decide +kernel | kernel_rfl
end FL

set_option Elab.async false
set_option linter.all false
set_option maxRecDepth 100000
set_option maxHeartbeats 1000000
namespace FL
open PySem PySem.Spec PyProof.Rows L2
/-- the law, called behind the top: what a function value that keeps FnG answers -/
theorem law_go {P : Program} {w : World} {K : PySem.W.Frag} {mg mb : Str → Option Value} {j : Nat} {lawA scr : Addr} {fd : FuncData} {p : Str} {promise : Sp} {sh : Shared} {items : List Value} {nums : List Int}
    (inK : K.In sh.heap) (gl : sh.heap.Ns mainGlobals mg) (bl : sh.heap.Ns builtinsNs mb) (boot : ∀ n : Str, n ≠ "__name__" → mb n = bootBuiltins n) (free : sh.heap.NoLimit) (calm : sh.gens = #[])
    (at_ : sh.heap.get? scr = some { cls := .type "list", data := .seq items.toArray }) (are : IntsAre items nums) (few : nums.length ≤ sizeLine) (rm : RoomG j callerA)
    (G : ∀ base : Heap, K.In base → base.Ns mainGlobals mg → FnG P w K mg base j lawA fd [p] promise) (bind : ∀ (s : Shared) (u : Value), BindsTo s fd ⟨[u], []⟩ [(p, u)])
    (keeps : ∀ Hh : Hp, Only Hh → SqL K Hh scr (nums.map V.int) → promise [.ref scr] Hh (fun v _ => v = .bl true) fun _ _ _ => False)
    (none_out : ∀ Hh e s', L2.CX P w [] Hh sh (fun _ _ _ => False) e s' → False) :
    codeAny (model P w) callerA (.call (.ref lawA) ⟨[.ref scr], []⟩) (fun out s' => out = .ok (.ret (.bool true)) ∧ OldK sh.heap s'.heap ∧ s'.os = sh.os ∧ AllBare s'.gens) sh := by
  have rel := vals_ints are
  have count := are.length
  have main : ∀ Hh : Hp, Only Hh → SqL K Hh scr (nums.map V.int) → HOk P w Hh sh.heap → (∀ b, Hh b ≠ none → b = scr) → (Hh scr ≠ none → K.lookup scr = none) →
      codeAny (model P w) callerA (.call (.ref lawA) ⟨[.ref scr], []⟩) (fun out s' => out = .ok (.ret (.bool true)) ∧ OldK sh.heap s'.heap ∧ s'.os = sh.os ∧ AllBare s'.gens) sh := by
    intro Hh only sq ok sole foreign
    have free_of : ∀ {b : Addr}, (Hh b ≠ none → False) → Hh b = none := fun {b} k => by
      cases q : Hh b with
      | none => rfl
      | some u => exact (k (by rw [q]; exact fun z => nomatch z)).elim
    have noDict : ∀ {b : Addr} {ob : Obj} {es : Array DictEntry} {ep : Nat}, sh.heap.get? b = some ob → ob.data = .dict es ep → Hh b = none := fun {b ob es ep} e dd => free_of fun z => by
      have eb := sole b z
      subst eb
      rw [at_] at e
      cases e
      exact nomatch (show Data.seq items.toArray _ = Data.dict es ep from dd)
    have ns_of : ∀ {b : Addr} {m : Str → Option Value}, sh.heap.Ns b m → (hidT sh.heap Hh).Ns b m := fun {b m} ⟨ob, es, ep, e, dd, r⟩ => ⟨ob, es, ep, hidT_get e (noDict e dd), dd, r⟩
    have kIn : K.In (hidT sh.heap Hh) := fun b ob e => hidT_get (inK b ob e) (free_of fun z => by
      have eb := sole b z
      subst eb
      rw [foreign z] at e
      cases e)
    have md : Mod K mg (hidT sh.heap Hh) := ⟨kIn, ns_of gl, ⟨mb, ns_of bl, boot⟩, free.elim fun mc z => ⟨mc, ns_of z.1, z.2⟩⟩
    have env : Env0 P w K mg (hidT sh.heap Hh) callerA [] sh Hh := ⟨rfl, md, fun b ob e => of_hidT e, Nat.le_of_eq (hidT_size _ _), trivial, fun b hb => (List.not_mem_nil (show b ∈ ([] : List Addr) from hb)).elim, ok, .of_eq calm⟩
    refine codeAny_mono ((G _ kIn (ns_of gl)).run callerA [] sh Hh ⟨[.ref scr], []⟩ [.ref scr] [.ref scr] _ _ rm env (bind sh (.ref scr)) (.cons rfl .nil) (keeps Hh only sq)) fun out s' fin => ?_
    match out, fin with
    | .error e, fin => exact (none_out Hh e s' fin).elim
    | .ok .next, fin => exact False.elim fin
    | .ok .brk, fin => exact False.elim fin
    | .ok .cont, fin => exact False.elim fin
    | .ok (.ret u), ⟨v, H2, os2, bare2, un, ok2, ru, q⟩ =>
      cases (show v = .bl true from q)
      obtain rfl : u = Value.bool true := ru
      refine ⟨rfl, OldK.of_keep fun b ob e => ?_, os2, bare2⟩
      rcases only b with z | ⟨o1, xs, z⟩
      · exact un.keep b ob e z (fun k => (List.not_mem_nil (show b ∈ ([] : List Addr) from k)).elim) (fun k => nomatch k)
      · obtain ⟨e1, _⟩ := ok b _ z
        obtain ⟨e2, _⟩ := ok2 b _ (un.frzs b o1 _ z)
        rw [e1] at e
        cases e
        exact e2
  cases inside : K.lookup scr with
  | some ob =>
    have e := inK scr ob inside
    rw [at_] at e
    cases e
    exact main (fun _ => none) (fun _ => .inl rfl) (.inr ⟨_, items.toArray, _, inside, rfl, rfl, rfl, by rw [List.size_toArray, count]; exact few, by simpa using rel⟩) (fun b u z => nomatch z) (fun b z => absurd rfl z) fun z => absurd rfl z
  | none =>
    have one : ∀ {b : Addr} {u : HO}, (if b = scr then some (HO.frz { cls := .type "list", data := .seq items.toArray } (.lst (nums.map V.int))) else none) = some u → b = scr := fun {b u} z => by
      by_cases hb : b = scr
      · exact hb
      · rw [if_neg hb] at z
        cases z
    refine main (fun b => if b = scr then some (.frz { cls := .type "list", data := .seq items.toArray } (.lst (nums.map V.int))) else none) (fun b => ?_) (.inl (.inr ⟨{ cls := .type "list", data := .seq items.toArray }, if_pos rfl⟩)) (fun b u z => ?_) (fun b z => ?_) fun _ => inside
    · by_cases hb : b = scr
      · exact .inr ⟨_, _, if_pos hb⟩
      · exact .inl (if_neg hb)
    · have hb := one z
      subst hb
      have z2 := (if_pos rfl).symm.trans z
      cases z2
      exact ⟨at_, by rw [List.length_map]; exact few, items, _, rel, at_⟩
    · by_cases hb : b = scr
      · exact hb
      · exact absurd (if_neg hb) z
/-- what a law says that answers True at each script -/
theorem law_says {T : Tx} {F : Fn} {K : PySem.W.Frag} (hK : T.K = K) (hF : ∀ ns : List Int, ∃ s, F [.d (.scr ns)] [] = .ok (.d (.bl true)) s) {Hh : Hp} {scr : Addr} {nums : List Int} (sq : SqL K Hh scr (nums.map V.int)) :
    spF T 1 F [.ref scr] Hh (fun v _ => v = .bl true) fun _ _ _ => False := by
  obtain ⟨s2, e⟩ := hF nums
  refine ⟨⟨Hh, fun _ => none, []⟩, [.d (.scr nums)], [], rfl, ⟨.ref scr, [], rfl, ?_, rfl⟩, ⟨Same.refl _, (fun a o z => nomatch z), (fun a o z => nomatch z), rfl, (fun i o a z => nomatch z), (fun i j o u a z => nomatch z)⟩, ?_⟩
  · show R T Hh (.scr nums) (.ref scr)
    unfold R
    exact ⟨scr, rfl, by rw [hK]; exact sq⟩
  · rw [e]
    exact fun w2 u H2 _ x _ => X_bl x
theorem no_cx {P : Program} {w : World} (Hh : Hp) (sh : Shared) (e : Value) (s' : Shared) (h : L2.CX P w [] Hh sh (fun _ _ _ => False) e s') : False := by
  obtain ⟨a, B, H2, cls, d, _, _, _, _, _, _, _, z⟩ := h
  exact z
theorem walk_go {l : PySem.W.OpenLaw} {n j : Nat} {q : Program} {loose : List Str} {XP : (Str → Option Value) → Heap → Prop} {YP : World → Heap → Prop} {d : DefRec} {K : Params → PySem.W.Frag} {p : Str} {F : Fn}
    (most : l.most = some n) (few : n ≤ sizeLine) (noDf : d.params.defaults = []) (rm : RoomG j callerA) (inK : ∀ (w : World) (h : Heap), YP w h → (K w.params).In h) (hF : ∀ ns : List Int, ∃ s, F [.d (.scr ns)] [] = .ok (.d (.bl true)) s)
    (all : ∀ (w : World) (mg : Str → Option Value) (lawA : Addr) (h : Heap), (K w.params).In h → h.Ns mainGlobals mg → mg d.name = some (.ref lawA) →
      ∃ (T : Tx) (fd : FuncData), T.K = K w.params ∧ (∀ (s : Shared) (u : Value), BindsTo s fd ⟨[u], []⟩ [(p, u)]) ∧ ∀ base : Heap, (K w.params).In base → base.Ns mainGlobals mg → FnG l.prog w (K w.params) mg base j lawA fd [p] (spF T 1 F)) :
    PySem.W.WalkO q loose XP YP l.row.toRowW d [] (fun f vs => PySem.call f vs) := by
  refine Att.attach_call most noDf fun w s0 sh mg mb lawA o pm cd doc scr items nums G Y ho hd hcd at1 at2 are len gens => ?_
  have kin := inK w _ Y
  obtain ⟨T, fd, hK, bind, Fn⟩ := all w mg lawA _ kin G.T.g at1
  exact law_go kin G.T.g G.T.b G.T.builtins G.T.nolimit gens at2 are (Nat.le_trans len few) rm Fn bind (fun Hh _ sq => law_says hK hF sq) fun Hh e s' => no_cx Hh sh e s'
end FL

set_option Elab.async false
set_option linter.all false
set_option maxRecDepth 100000
set_option maxHeartbeats 1000000
namespace FL
open PySem PySem.Spec PyProof.Rows L2
/-- a def of the text, as the file shows it -/
structure FnF (K : PySem.W.Frag) (x : Str) (st : Stmt) (f : Addr) : Prop where
  ns : PySem.W.nsIn K mainGlobals x = some (some (.ref f))
  fn : ∃ fd, FunD K x x (defArgs st) (defBody st) (defScope st) [] [] f fd
theorem fnF {K : PySem.W.Frag} {x : Str} {st : Stmt} {f : Addr} {oc : Value} {od : Option Addr} {kV doc pm : Value} {an : Option Addr} {cd ct : Value} {sl : Array (Option Value)} (a : PySem.W.nsIn K mainGlobals x = some (some (.ref f)))
    (l : K.lookup f = some ⟨oc, od, .func (PySem.W.fnOf x x (defArgs st) (defBody st) (defScope st) .none kV doc pm an cd ct), sl⟩) (c : PySem.W.codeIn K cd x = true) (k : PySem.W.keepIn K (.ref f) = true) : FnF K x st f :=
  ⟨a, _, ⟨oc, od, .none, kV, doc, pm, an, cd, ct, sl, rfl, l, c, .inl ⟨rfl, rfl⟩, .inl rfl⟩, k⟩
section
variable {T : Tx} {P : Program} {w : World} {K : PySem.W.Frag} {mg : Str → Option Value} {base : Heap}
theorem def_mk {k : Nat} {x : Str} {st : Stmt} {f : Addr} {N ps : List Str} {fs : FS} {F : Fn} (A : FnF K x st f) (mx : mg x = some (.ref f)) (S : FnScope N ps (defScope st)) (hF : bodyF (N.length - ps.length) fs = F)
    (hb : ∀ (kV doc pm : Value) (an : Option Addr) (cdv ct : Value) (us : List Value), us.length = ps.length → bindArgs (PySem.W.fnOf x x (defArgs st) (defBody st) (defScope st) .none kV doc pm an cdv ct) ⟨us, []⟩ = pure (ps.zip us))
    (h : ∀ (q : Qx) (W : WX), RoomG k q.A → Takes (mkX P w K mg base N (defScope st) q) W → PassesOwn (model P w) q.A (enX (defScope st) q) q.xe → PFSs T (mkX P w K mg base N (defScope st) q) W (defBody st) fs) :
    Def T P w K mg base (k + 1) x ps [] F := by
  obtain ⟨fd, D⟩ := A.fn
  subst hF
  exact ⟨f, fd, [], [], fn_mk2 D S h, mx, D.kp, D.bindsN hb, .nil, fun G => by unfold Rs; rfl⟩
theorem defK_mk {k : Nat} {x : Str} {st : Stmt} {f : Addr} {N ps ks : List Str} {pm : List Nat} {fs : FS} {F : Fn} (A : FnF K x st f) (mx : mg x = some (.ref f)) (S : FnScope N ps (defScope st)) (hF : bodyF (N.length - ps.length) fs = F)
    (hb : ∀ (kV doc pm' : Value) (an : Option Addr) (cdv ct : Value) (ws : List Value), ws.length = ks.length → bindArgs (PySem.W.fnOf x x (defArgs st) (defBody st) (defScope st) .none kV doc pm' an cdv ct) ⟨[], ks.zip ws⟩ = pure (ps.zip (permL pm ws)))
    (h : ∀ (q : Qx) (W : WX), RoomG k q.A → Takes (mkX P w K mg base N (defScope st) q) W → PassesOwn (model P w) q.A (enX (defScope st) q) q.xe → PFSs T (mkX P w K mg base N (defScope st) q) W (defBody st) fs) :
    DefK T P w K mg base (k + 1) x ps ks pm F := by
  obtain ⟨fd, D⟩ := A.fn
  subst hF
  exact ⟨f, fd, fn_mk2 D S h, mx, D.kp, kb_of D hb⟩
end
end FL

set_option Elab.async false
set_option linter.all false
set_option maxRecDepth 100000
set_option maxHeartbeats 1000000
namespace FL
open PySem PySem.Spec PyProof.Rows L2
/-! ### instances of the text's classes -/
section
variable {T : Tx} {X : Cx} {W : WX}
/-- C(..) runs -/
theorem run_makeG {k : Nat} {f C : Addr} {fd : FuncData} {ps : List Str} {sp : Sp} {dvs : List V} {ds : List Value} {E : XK} {pins : List (Addr × Obj)} {σ : L2.St} {H : Hp} {s : Shared} {Q : VK} {us : List Value} {vs : List V} (M : L2.Mk X.K C f)
    (F : FnG X.prog X.w X.K X.mg X.base k f fd ps sp) (hr : RoomG (k + 1) X.A) (hb : Binds X.K fd ps ds) (hd : Vals dvs ds) (hx : PassesAt (L2.CX X.prog X.w) X σ E) (I : Inv X pins σ H s) (r : Vals vs us)
    (h : ∀ x dx, H x = none → H dx = none → dx ≠ x → sp (.ref x :: (vs ++ dvs)) (upd (upd H dx (.own x)) x (.ins C dx [])) (fun v H2 => v = .non ∧ Q (.ref x) H2) E) :
    wpAny (model X.prog X.w) X.A (call (.ref C) us) (EP X pins σ Q) X.xe s := by
  have hq := h (s.heap.objs.size + 1) s.heap.objs.size (I.hok.fresh (Nat.le_succ _)) (I.hok.fresh (Nat.le_refl _)) (Nat.ne_of_lt (Nat.lt_succ_self _))
  have I2 := Inv.made (C := C) I
  have r2 : Vals (V.ref (s.heap.objs.size + 1) :: (vs ++ dvs)) (Value.ref (s.heap.objs.size + 1) :: (us ++ ds)) := .cons rfl (r.append hd)
  have hl : (Value.ref (s.heap.objs.size + 1) :: us ++ ds).length = ps.length := by
    have e := r2.length
    rw [F.len _ _ _ _ hq] at e
    exact e.symm
  have hrm : RoomG k (X.A.under (.builtin "type.__call__" ⟨.ref C :: us, []⟩)) := ⟨hr.room.make C us [], hr.gd⟩
  refine wpAny_call (make_map (f := f) I.kIn M.makes M.init (beq_iff_eq.mp M.fn) (codeAny_mono (F.run _ X.stack _ _ ⟨Value.ref (s.heap.objs.size + 1) :: us, []⟩ (Value.ref (s.heap.objs.size + 1) :: (us ++ ds)) _ _ E hrm
    (I2.env0.make C us []) (hb _ (Value.ref (s.heap.objs.size + 1) :: us) I2.kIn hl) r2 hq) fun r s' hq' => ?_))
  cases r with
  | error e => exact hx pins _ _ e s' I2 hq'
  | ok fl =>
    cases fl with
    | ret u =>
      obtain ⟨v, H', I3, rv, ev, q3⟩ := I2.after hq'
      subst ev
      exact ⟨rv, ⟨V.ref (s.heap.objs.size + 1), H', I3, rfl, q3⟩⟩
    | next => exact (show False from hq').elim
    | brk => exact (show False from hq').elim
    | cont => exact (show False from hq').elim
def tMakeG (C : Addr) (sp : Sp) (dvs : List V) (E : L2.St → XK) (t : TA) : TE := fun σ H Q => t σ H fun vs H1 => ∀ x dx, H1 x = none → H1 dx = none → dx ≠ x →
  sp (.ref x :: (vs ++ dvs)) (upd (upd H1 dx (.own x)) x (.ins C dx [])) (fun v H2 => v = .non ∧ Q (.ref x) H2) (E σ)
theorem pe_makeG {k : Nat} {f C : Addr} {fd : FuncData} {ps : List Str} {sp : Sp} {dvs : List V} {ds : List Value} {E : L2.St → XK} {x : Str} {p pos : Pos} {e : Expr} {es : List Expr} {t : TA} (M : L2.Mk X.K C f)
    (F : FnG X.prog X.w X.K X.mg X.base k f fd ps sp) (hr : RoomG (k + 1) X.A) (hg : Gl X x) (hm : X.mg x = some (.ref C)) (hb : Binds X.K fd ps ds) (hd : Vals dvs ds) (hx : ∀ σ, PassesAt (L2.CX X.prog X.w) X σ (E σ))
    (ha : PA X (e :: es) t) (hdb : (x == ("__debug__" : Str)) = false := by decide) (he : starEach (e :: es) X.env = (false, eval e X.env) :: starEach es X.env := by rfl) (hpl : (backTo pos (starEach es X.env)).any (·.1) = false := by rfl) :
    PE X (.Call (.Name x p) (e :: es) [] pos) (tMakeG C sp dvs E t) := ⟨fun pins s σ H Q I h =>
  wpAny_Call_Name_kw (ld_glob I hg hm (PySem.W.callWith_K (h₀ := X.base) I.ok.mod.kin M.kp (thn (ha.run pos pins s σ H _ I h) fun us s1 ⟨vs, H1, I1, r, q⟩ => ⟨I1.kIn, run_makeG M F hr hb hd (hx σ) I1 r q⟩) he hpl) hdb)⟩
/-- C(..) of plain values: the instance as it stands behind __init__, changing (m) or as plain data -/
def runM (m : Bool) (c : Nat) (F : Fn) (xs : List Xv) (s : Sto) : Res := match refsOf xs with
  | [] => match F (.ref 0 :: xs) [.ins c [] []] with
    | .ok (.d .non) s2 => match get0 s2 with | some o => mkO m o s | none => .stuck
    | .exc e _ => .exc e s
    | _ => .stuck
  | _ => .stuck
def makeF (m : Bool) (c : Nat) (F : Fn) (dv : List D) (g : FA) : FE := fun ρ s => (g ρ s).bind fun xs s1 => runM m c F (xs ++ dv.map .d) s1
theorem runM_ok {st : L2.St} {w : Wd} {m : Bool} {c : Nat} {F : Fn} {xs : List Xv} {vs : List V} {s : Sto} {H : Hp} {Q : VK} {n : Nat} (hn : xs.length + 1 = n) (x : RXs T w xs vs) (r : RS T w s H) (p : PostE T W st w (runM m c F xs s) Q)
    (a dx : Addr) (ha : H a = none) (hd : H dx = none) (hne : dx ≠ a) : spF T n F (.ref a :: vs) (upd (upd H dx (.own a)) a (.ins (T.ct c) dx [])) (fun v H2 => v = .non ∧ Q (.ref a) H2) (WE W st) := by
  unfold runM at p
  split at p
  · rename_i h0
    have up : Same H (upd (upd H dx (.own a)) a (.ins (T.ct c) dx [])) := fun b o q => by
      rw [upd_ne (ne_of_none q ha), upd_ne (ne_of_none q hd)]
      exact q
    have ga : w.G a = none := (r.fresh ha).1
    have hz : hold w s H none a = none := by
      cases q : hold w s H none a with
      | none => rfl
      | some o =>
        have := hold_same r a o q
        rw [ha] at this
        cases this
    refine ⟨{ w with io := [a], Z := hold w s H none }, .ref 0 :: xs, [.ins c [] []], by rw [List.length_cons]; exact hn, ⟨.ref a, vs, rfl, ⟨a, rfl, rfl⟩, rxs_pure (w := w) (w' := { w with io := [a], Z := hold w s H none }) rfl h0 x⟩,
      ⟨r.g.trans up, (hold_same r).trans up, fun a o h => hold_g r h, rfl, fun i o b e1 e2 e3 => ?_, fun i j o u b e1 _ e2 _ _ _ => ?_⟩, ?_⟩
    · have hi : i = 0 := by
        have := (List.getElem?_eq_some_iff.mp e1).1
        simp at this
        exact this
      subst hi
      have e1' : O.ins c [] [] = o := by simpa using e1
      have e3' : a = b := by
        have e3'' : [a][0]? = some b := e3
        simpa using e3''
      subst e1' e3'
      exact ⟨_, upd_same, ⟨dx, [], rfl, rfl, by show Rs T _ [] []; unfold Rs; rfl⟩, ga, hz⟩
    · have h1 := (List.getElem?_eq_some_iff.mp e1).1
      have h2 := (List.getElem?_eq_some_iff.mp e2).1
      simp at h1 h2
      rw [h1, h2]
    · have bk : ∀ {w' : Wd} {s' : Sto} {H' : Hp}, Le { w with io := [a], Z := hold w s H none } w' → RS T w' s' H' → Le w { w with G := w'.G } ∧ RS T { w with G := w'.G } s H' := fun {w' s' H'} l r' => by
        have zz : ∀ {b : Addr} {o : HO}, hold w s H none b = some o → H' b = some o ∧ w'.G b = none := fun {b o} h => by
          have e : w'.Z = hold w s H none := l.z
          exact ⟨r'.z _ _ (by rw [e]; exact h), r'.gz b o (by rw [e]; exact h)⟩
        refine ⟨⟨l.g, rfl, [], by simp⟩, ⟨r'.g, fun a o h => (zz (hold_z r h)).1, fun a o h => (zz (hold_z r h)).2, r.len, fun i o a e1 e2 e3 => ?_, r.inj⟩⟩
        obtain ⟨ho, h1, h2, h3, h4⟩ := r.live i o a e1 e2 e3
        have q := zz ((hold_lv (w := w) (s := s) (H := H) (b := none) ⟨i, o, e1, e2, e3⟩ (by intro z; cases z)).trans h1)
        exact ⟨ho, q.1, RO.mono l.g h2, q.2, h4⟩
      split at p
      · rename_i s2 hF
        rw [hF]
        split at p
        · rename_i o h2g
          obtain ⟨h2, hdd⟩ := get0_ok h2g
          intro w' u H' l rx r'
          obtain ⟨l2, r2⟩ := bk l r'
          have h0' : w'.io[0]? = some a := by
            obtain ⟨t, e⟩ := l.io
            rw [e]
            rfl
          refine ⟨X_non rx, ?_⟩
          obtain ⟨h', q1, q2, q3, q4, q5⟩ := new_of r l.z r' h2 hdd h0' (by intro z; cases z)
          exact join_new r2 q1 q2 q3 q4 q5 (PostE.mono l2 p)
        · exact p.elim
      · rename_i e s2 hF
        rw [hF]
        intro w' cls d H' l rx r'
        obtain ⟨l2, r2⟩ := bk l r'
        exact PostE.mono l2 p _ _ _ _ (.refl _) (rexc_g (w := w') rfl rx) r2
      · exact p.elim
  · exact p.elim
/-- a class that is made -/
structure DefM (T : Tx) (P : Program) (w : World) (K : PySem.W.Frag) (mg : Str → Option Value) (base : Heap) (k : Nat) (x : Str) (c : Nat) (ps : List Str) (dv : List D) (F : Fn) : Prop where
  ex : ∃ f fd dvs ds, FnG P w K mg base k f fd ps (spF T ps.length F) ∧ mg x = some (.ref (T.ct c)) ∧ L2.Mk K (T.ct c) f ∧ Binds K fd ps ds ∧ Vals dvs ds ∧ ∀ G, Rs T G dv dvs
theorem pf_make {j k : Nat} {c : Nat} {ps : List Str} {F : Fn} {dv : List D} {x : Str} {p pos : Pos} {e : Expr} {es : List Expr} {g : FA} (m : Bool) (Df : DefM T X.prog X.w X.K X.mg X.base j x c ps dv F) (C : Cn T X W k) (ha : PFA T X W (e :: es) g) (hgl : LenA g (e :: es).length) (hj : j + 1 ≤ k := by decide) (hl : (e :: es).length + dv.length + 1 = ps.length := by rfl)
    (hg : Gl X x := by rfl) (hdb : (x == ("__debug__" : Str)) = false := by decide) (he : starEach (e :: es) X.env = (false, eval e X.env) :: starEach es X.env := by rfl) (hpl : (backTo pos (starEach es X.env)).any (·.1) = false := by rfl) :
    PF T X W (.Call (.Name x p) (e :: es) [] pos) (makeF m c F dv g) := by
  obtain ⟨f, fd, dvs, ds, G, hm, M, hb, hd, hv⟩ := Df.ex
  refine PE.imp (pe_makeG (E := WE W) M G (C.hr.mono hj) hg hm hb hd (fun σ => passAt C.tk σ) ha hdb he hpl) fun st H Q ⟨w, ρ, s, e0, q, p0⟩ => ?_
  refine ⟨w, ρ, s, e0, q, ?_⟩
  have hq := hgl ρ s
  unfold makeF at p0
  revert p0 hq
  cases g ρ s with
  | exc a b => exact fun p _ => p
  | stuck => exact fun p _ => p
  | ok xs s1 =>
    intro p0 hq w1 us H1 l x1 r1 a dx ha hdx hne
    exact runM_ok (n := ps.length) (by rw [List.length_append, List.length_map, hq xs s1 rfl]; exact hl) (x1.append (rxs_of_rs (hv _))) r1 (PostE.mono l p0) a dx ha hdx hne

theorem RXs.consX {w : Wd} {x : Xv} {xs : List Xv} {v : V} {vs : List V} (h : RX T w x v) (k : RXs T w xs vs) : RXs T w (x :: xs) (v :: vs) := ⟨v, vs, rfl, h, k⟩
/-! ### methods -/
def tMethG (C : Addr) (m : Str) (sp : Sp) (dvs : List V) (E : L2.St → XK) (ta : TE) (t : TA) : TE := fun σ H Q => ta σ H fun x H1 => ∃ a dx fs, x = .ref a ∧ H1 a = some (.ins C dx fs) ∧ fs.lookup m = none ∧
  t σ H1 fun vs H2 => sp (x :: (vs ++ dvs)) H2 Q (E σ)
theorem pe_methG {k : Nat} {f C : Addr} {fd : FuncData} {ps : List Str} {sp : Sp} {dvs : List V} {ds : List Value} {E : L2.St → XK} {m : Str} {apos pos : Pos} {o e : Expr} {es : List Expr} {ta : TE} {t : TA} {pl : Sem Bool} (he : PE X o ta) (c : Cls X.K C) (hm : Meth X.K C m f)
    (F : FnG X.prog X.w X.K X.mg X.base k f fd ps sp) (hr : RoomG k X.A) (hb : Binds X.K fd ps ds) (hd : Vals dvs ds) (hx : ∀ σ, PassesAt (L2.CX X.prog X.w) X σ (E σ)) (ha : PA X (e :: es) t)
    (hst : starEach (e :: es) X.env = (false, eval e X.env) :: starEach es X.env := by rfl) (hpl : (backTo pos (starEach es X.env)).any (·.1) = false := by rfl)
    (ht : eval (.Call (.Attribute o m apos) (e :: es) [] pos) X.env = (do
      let ov ← eval o X.env
      standAt apos.atName
      let (f, first) ← holding [ov] (getMethod ov m pl)
      callWith pos f first (backTo pos (starEach (e :: es) X.env)) (backToKw pos (keywordEach [] X.env))) := by rfl) :
    PE X (.Call (.Attribute o m apos) (e :: es) [] pos) (tMethG C m sp dvs E ta t) := by
  refine ⟨fun pins s σ H Q I h => ?_⟩
  refine PySem.W.methodCall_KW (pl := pl) (thn (he.run pins s σ H _ I h) fun u s1 ⟨x, H1, I1, rx, a, dx, fs, ex, ea, l, q⟩ => ?_) ht
  subst ex
  obtain rfl : u = Value.ref a := rx
  refine getmeth_ok I1 ea c hm l ?_
  refine PySem.W.callWith_K (first := [.ref a]) (h₀ := X.base) I.ok.mod.kin hm.kp (thn (ha.run pos pins s1 σ H1 _ I1 q) fun us s2 ⟨vs, H2, I2, r, q2⟩ => ⟨I2.kIn, ?_⟩) hst hpl
  exact run_fnG (us := .ref a :: us) (vs := .ref a :: vs) F hr hb hd (hx σ) I2 (.cons rfl r) q2
theorem pe_methG0 {k : Nat} {f C : Addr} {fd : FuncData} {ps : List Str} {sp : Sp} {dvs : List V} {ds : List Value} {E : L2.St → XK} {m : Str} {apos pos : Pos} {o : Expr} {ta : TE} {pl : Sem Bool} (he : PE X o ta) (c : Cls X.K C) (hm : Meth X.K C m f)
    (F : FnG X.prog X.w X.K X.mg X.base k f fd ps sp) (hr : RoomG k X.A) (hb : Binds X.K fd ps ds) (hd : Vals dvs ds) (hx : ∀ σ, PassesAt (L2.CX X.prog X.w) X σ (E σ))
    (ht : eval (.Call (.Attribute o m apos) [] [] pos) X.env = (do
      let ov ← eval o X.env
      standAt apos.atName
      let (f, first) ← holding [ov] (getMethod ov m pl)
      callWith pos f first (backTo pos (starEach [] X.env)) (backToKw pos (keywordEach [] X.env))) := by rfl) :
    PE X (.Call (.Attribute o m apos) [] [] pos) (tMethG C m sp dvs E ta tNil) := by
  refine ⟨fun pins s σ H Q I h => ?_⟩
  refine PySem.W.methodCall_KW (pl := pl) (thn (he.run pins s σ H _ I h) fun u s1 ⟨x, H1, I1, rx, a, dx, fs, ex, ea, l, q⟩ => ?_) ht
  subst ex
  obtain rfl : u = Value.ref a := rx
  refine getmeth_ok I1 ea c hm l ?_
  exact PySem.W.callWith_K0 (first := [.ref a]) I1.kIn hm.kp (run_fnG (us := [.ref a]) (vs := [.ref a]) F hr hb hd (hx σ) I1 (.cons rfl .nil) q)
/-- an instance, plain or changing -/
def insV (x : Xv) (s : Sto) : Option (Nat × List Str × List D) := match x with
  | .d (.obj c ns vs) => some (c, ns, vs)
  | .ref i => match s[i]? with
    | some (.ins c ns vs) => some (c, ns, vs)
    | _ => none
  | _ => none
theorem insV_ok {w : Wd} {s : Sto} {H : Hp} {x : Xv} {u : V} {c : Nat} {ns : List Str} {xs : List D} (r : RS T w s H) (e : RX T w x u) (h : insV x s = some (c, ns, xs)) : ∃ a dx fs, u = .ref a ∧ H a = some (.ins (T.ct c) dx fs) ∧ fs.map (·.1) = ns ∧ Rs T w.G xs (fs.map (·.2)) := by
  unfold insV at h
  split at h
  · cases h
    have e' : R T w.G (.obj c ns xs) u := e
    unfold R at e'
    obtain ⟨a, dx, fs, e1, e2, e3, e4⟩ := e'
    exact ⟨a, dx, fs, e1, r.g _ _ e2, e3, e4⟩
  · rename_i i
    split at h
    · rename_i c' ns' vs' hs
      cases h
      obtain ⟨a, e1, e2⟩ := e
      obtain ⟨ho, h1, h2, _, _⟩ := r.live i _ a hs (fun z => nomatch z) e1
      obtain ⟨dx, fs, q1, q2, q3⟩ := h2
      subst q1
      exact ⟨a, dx, fs, e2, h1, q2, q3⟩
    · cases h
  · cases h
theorem lookup_none {f : Str} : ∀ {fs : List (Str × V)}, f ∉ fs.map (·.1) → fs.lookup f = none
  | [], _ => rfl
  | (g, v) :: fs, h => by
    have h' : ¬ (f = g ∨ f ∈ fs.map (·.1)) := by simpa using h
    have hb : (f == g) = false := by simpa using fun z => h' (.inl z)
    show List.lookup f ((g, v) :: fs) = none
    rw [List.lookup_cons, hb]
    exact lookup_none fun z => h' (.inr z)
/-- o.m(..) of an instance of the class c -/
def methF (r : Bool) (c : Nat) (m : Str) (F : Fn) (dv : List D) (f : FE) (g : FA) : FE := fun ρ s => (f ρ s).bind fun x s1 => match insV x s1 with
  | some (k, ns, _) => if k = c ∧ ns.contains m = false then (g ρ s1).bind fun xs s2 => runC r F (x :: (xs ++ dv.map .d)) s2 else .stuck
  | none => .stuck
structure DefO (T : Tx) (P : Program) (w : World) (K : PySem.W.Frag) (mg : Str → Option Value) (base : Heap) (k : Nat) (c : Nat) (m : Str) (ps : List Str) (dv : List D) (F : Fn) : Prop where
  ex : ∃ f fd dvs ds, FnG P w K mg base k f fd ps (spF T ps.length F) ∧ Cls K (T.ct c) ∧ Meth K (T.ct c) m f ∧ Binds K fd ps ds ∧ Vals dvs ds ∧ ∀ G, Rs T G dv dvs
theorem pf_meth {j k : Nat} {c : Nat} {m : Str} {ps : List Str} {F : Fn} {dv : List D} {apos pos : Pos} {o e : Expr} {es : List Expr} {f : FE} {g : FA} {pl : Sem Bool} (r : Bool) (Df : DefO T X.prog X.w X.K X.mg X.base j c m ps dv F) (C : Cn T X W k) (ho : PF T X W o f) (ha : PFA T X W (e :: es) g) (hgl : LenA g (e :: es).length) (hj : j ≤ k := by decide) (hl : (e :: es).length + dv.length + 1 = ps.length := by rfl)
    (hst : starEach (e :: es) X.env = (false, eval e X.env) :: starEach es X.env := by rfl) (hpl : (backTo pos (starEach es X.env)).any (·.1) = false := by rfl)
    (ht : eval (.Call (.Attribute o m apos) (e :: es) [] pos) X.env = (do
      let ov ← eval o X.env
      standAt apos.atName
      let (f, first) ← holding [ov] (getMethod ov m pl)
      callWith pos f first (backTo pos (starEach (e :: es) X.env)) (backToKw pos (keywordEach [] X.env))) := by rfl) :
    PF T X W (.Call (.Attribute o m apos) (e :: es) [] pos) (methF r c m F dv f g) := by
  obtain ⟨f', fd, dvs, ds, G, hc, hm, hb, hd, hv⟩ := Df.ex
  refine PE.imp (pe_methG (E := WE W) ho hc hm (G.mono hj) C.hr hb hd (fun σ => passAt C.tk σ) ha hst hpl ht) fun st H Q ⟨w, ρ, s, e0, q, p0⟩ => ?_
  refine rdE_mono (postE_bind e0 q p0) fun u H1 ⟨w1, x, s1, l1, e1, x1, r1, p1⟩ => ?_
  split at p1
  · rename_i k0 ns vs hi
    split at p1
    · rename_i hc2
      obtain ⟨rfl, hns⟩ := hc2
      obtain ⟨a, dx, fs, h1, h2, h3, h4⟩ := insV_ok r1 x1 hi
      subst h1
      refine ⟨a, dx, fs, rfl, h2, lookup_none fun z => ?_, ?_⟩
      · rw [h3] at z
        rw [List.contains_iff_mem.mpr z] at hns
        cases hns
      · refine ⟨w1, ρ, s1, e1, r1, ?_⟩
        have hq := hgl ρ s1
        revert p1 hq
        cases g ρ s1 with
        | exc a b => exact fun p _ => p
        | stuck => exact fun p _ => p
        | ok xs s2 =>
          intro p1 hq w2 us H2 l2 x2 r2
          exact runC_ok (n := ps.length) (by rw [List.length_cons, List.length_append, List.length_map, hq xs s2 rfl]; exact hl) (RXs.consX (x1.mono l2) (x2.append (rxs_of_rs (hv _)))) r2 (PostE.mono l2 p1)
    · exact p1.elim
  · exact p1.elim
theorem pf_meth0 {j k : Nat} {c : Nat} {m : Str} {ps : List Str} {F : Fn} {dv : List D} {apos pos : Pos} {o : Expr} {f : FE} {pl : Sem Bool} (r : Bool) (Df : DefO T X.prog X.w X.K X.mg X.base j c m ps dv F) (C : Cn T X W k) (ho : PF T X W o f) (hj : j ≤ k := by decide) (hl : dv.length + 1 = ps.length := by rfl)
    (ht : eval (.Call (.Attribute o m apos) [] [] pos) X.env = (do
      let ov ← eval o X.env
      standAt apos.atName
      let (f, first) ← holding [ov] (getMethod ov m pl)
      callWith pos f first (backTo pos (starEach [] X.env)) (backToKw pos (keywordEach [] X.env))) := by rfl) :
    PF T X W (.Call (.Attribute o m apos) [] [] pos) (methF r c m F dv f nilA) := by
  obtain ⟨f', fd, dvs, ds, G, hc, hm, hb, hd, hv⟩ := Df.ex
  refine PE.imp (pe_methG0 (E := WE W) ho hc hm (G.mono hj) C.hr hb hd (fun σ => passAt C.tk σ) ht) fun st H Q ⟨w, ρ, s, e0, q, p0⟩ => ?_
  refine rdE_mono (postE_bind e0 q p0) fun u H1 ⟨w1, x, s1, l1, e1, x1, r1, p1⟩ => ?_
  split at p1
  · rename_i k0 ns vs hi
    split at p1
    · rename_i hc2
      obtain ⟨rfl, hns⟩ := hc2
      obtain ⟨a, dx, fs, h1, h2, h3, h4⟩ := insV_ok r1 x1 hi
      subst h1
      refine ⟨a, dx, fs, rfl, h2, lookup_none fun z => ?_, ?_⟩
      · rw [h3] at z
        rw [List.contains_iff_mem.mpr z] at hns
        cases hns
      · exact runC_ok (n := ps.length) (by simpa using hl) (RXs.consX x1 (rxs_of_rs (hv _))) r1 p1
    · exact p1.elim
  · exact p1.elim

/-! ### fields -/
structure TxCl (T : Tx) (own : Nat → Bool) : Prop where
  c : ∀ c, own c = true → Cls T.K (T.ct c)
def fldF (own : Nat → Bool) (n : Str) (f : FE) : FE := fun ρ s => (f ρ s).bind fun x s1 => match insV x s1 with
  | some (c, ns, vs) => match getN ns vs n with
    | some d => if own c = true then .ok (.d d) s1 else .stuck
    | none => .stuck
  | none => .stuck
theorem pf_fld {own : Nat → Bool} {n : Str} {e : Expr} {f : FE} {pos : Pos} (O : TxCl T own) (hn : ∀ c, own c = true → NoAttr T.K (T.ct c) n) (hK : X.K = T.K) (he : PF T X W e f) (hb : attributeBase e n X.env (eval e X.env) = eval e X.env := by rfl) : PF T X W (.Attribute e n pos) (fldF own n f) := by
  refine PE.imp (pe_fld he hb) fun st H Q ⟨w, ρ, s, e0, q, p0⟩ => ?_
  refine rdE_mono (postE_bind e0 q p0) fun u H1 ⟨w1, x, s1, l1, e1, x1, r1, p1⟩ => ?_
  split at p1
  · rename_i c ns vs hi
    split at p1
    · rename_i d hg
      split at p1
      · rename_i hc
        obtain ⟨a, dx, fs, h1, h2, h3, h4⟩ := insV_ok r1 x1 hi
        obtain ⟨v, k1, k2⟩ := getN_ok h3 h4 hg
        exact ⟨a, _, dx, fs, v, h1, h2, by rw [hK]; exact O.c c hc, by rw [hK]; exact hn c hc, k1, postE_ok p1 k2 r1⟩
      · exact p1.elim
    · exact p1.elim
  · exact p1.elim
def putN : List Str → List D → Str → D → List Str × List D
  | [], _, n, d => ([n], [d])
  | g :: ns, [], n, d => (g :: ns, [])
  | g :: ns, x :: xs, n, d => if g = n then (g :: ns, d :: xs) else (g :: (putN ns xs n d).1, x :: (putN ns xs n d).2)
theorem putN_ok {G : Hp} {n : Str} {d : D} {v : V} (hv : R T G d v) : ∀ {ns : List Str} {xs : List D} {fs : List (Str × V)}, fs.map (·.1) = ns → Rs T G xs (fs.map (·.2)) → (putF n v fs).map (·.1) = (putN ns xs n d).1 ∧ Rs T G (putN ns xs n d).2 ((putF n v fs).map (·.2))
  | [], xs, [], _, h => by
    unfold putN putF
    exact ⟨rfl, .one hv⟩
  | [], xs, _ :: _, e, _ => by cases e
  | _ :: _, _, [], e, _ => by cases e
  | g :: ns, [], (g', v') :: fs, e, h => by
    unfold Rs at h
    cases h
  | g :: ns, x :: xs, (g', v') :: fs, e, h => by
    have e1 : g' = g := by
      have := List.cons.inj e
      exact this.1
    have e2 : fs.map (·.1) = ns := (List.cons.inj e).2
    subst e1
    have h' : ∃ u r, ((g', v') :: fs).map (·.2) = u :: r ∧ R T G x u ∧ Rs T G xs r := by
      have h0 := h
      unfold Rs at h0
      exact h0
    obtain ⟨u, r, k1, k2, k3⟩ := h'
    have k1' : v' = u ∧ fs.map (·.2) = r := List.cons.inj k1
    obtain ⟨rfl, rfl⟩ := k1'
    unfold putN putF
    by_cases hg : g' = n
    · rw [if_pos hg, if_pos hg]
      refine ⟨?_, .cons hv k3⟩
      show g' :: fs.map (·.1) = _
      rw [e2]
    · rw [if_neg hg, if_neg hg]
      obtain ⟨q1, q2⟩ := putN_ok hv (n := n) (fs := fs) e2 k3
      refine ⟨?_, .cons k2 q2⟩
      show g' :: (putF n v fs).map (·.1) = _
      rw [q1]
def setFldS (own : Nat → Bool) (n : Str) (fo fv : FE) : FS := fun ρ s => (fv ρ s).bindS ρ fun v s1 => (fo ρ s1).bindS ρ fun o s2 => match v, o with
  | .d d, .ref i => match s2[i]? with
    | some (.ins c ns vs) => if own c = true ∧ ns.length < 1000 then .nx ρ (s2.set i (.ins c (putN ns vs n d).1 (putN ns vs n d).2)) else .stuck
    | _ => .stuck
  | _, _ => .stuck
theorem pfs_setFld {own : Nat → Bool} {n : Str} {o e : Expr} {fo fv : FE} {p1 pos : Pos} (O : TxCl T own) (hn : ∀ c, own c = true → NoAttr T.K (T.ct c) n) (hK : X.K = T.K) (he : PF T X W e fv) (ho : PF T X W o fo) (hs : swapsWith e (some (.Attribute o n p1)) pos.line X.env = pure false := by rfl) :
    PFS T X W (.Assign [.Attribute o n p1] e pos) (setFldS own n fo fv) := by
  refine PS.imp (ps_fld ho he hs) fun D0 st H ⟨w, ρ, s, e0, q, p0⟩ => ?_
  refine rdE_mono (postS_bind e0 q p0) fun u H1 ⟨w1, v, s1, l1, e1, x1, r1, p1⟩ => ?_
  refine rdE_mono (postS_bind e1 r1 p1) fun u2 H2 ⟨w2, o2, s2, l2, e2, x2, r2, p2⟩ => ?_
  cases v with
  | ref _ => exact p2.elim
  | d d =>
    cases o2 with
    | d _ => exact p2.elim
    | ref i =>
      dsimp only at p2
      split at p2
      · rename_i c ns vs hs2
        split at p2
        · rename_i hc
          obtain ⟨a, k1, k2⟩ := x2
          obtain ⟨ho', h1, ⟨dx, fs, h2, h3, h4⟩, h5, h6⟩ := r2.live i _ a hs2 (fun z => nomatch z) k1
          subst h2
          have hv : R T w2.G d u := RX.mono (x := .d d) l2 x1
          obtain ⟨m1, m2⟩ := putN_ok (n := n) hv h3 h4
          refine ⟨a, _, dx, fs, k2, h1, by rw [hK]; exact O.c c hc.1, by rw [hK]; exact hn c hc.1, by have := hc.2; rw [← h3] at this; simpa using this, ?_⟩
          exact p2 _ _ _ (.refl _) e2 (r2.write hs2 (fun z => nomatch z) k1 ⟨dx, _, rfl, m1, m2⟩)
        · exact p2.elim
      · exact p2.elim
end
end FL

set_option Elab.async false
set_option linter.all false
set_option maxRecDepth 100000
set_option maxHeartbeats 1000000
namespace FLG
open PySem PySem.SeqAt
open AutoSeq1 (wpAny_loadPart')
open MeetsSeq MeetsSeq2 MeetsSeq3 SeqRoads2 GQ
section
variable {prog : Program} {w : World} {A : Around} {R : Result → Shared → Prop}
theorem ne_loopG (l b : Addr) (N : Nat) (I : Nat → Shared → Prop) (hl : ListI prog w A (fun e s' => R (.error e) s') l b N I)
    (fin : ∀ s, I N s → R (.ok (.ret (.bool false))) s) (k : Nat) :
    ∀ i : Nat, N - i = k → i ≤ N → ∀ s, I i s →
      wpAny (model prog w) A.in1 (Builtin.«list.__eq__.loop» ⟨[.ref l, .ref b, rawInt i, rawInt 3], []⟩) (FinOf prog w A R) (fun e s' => R (.error e) s') s := by
  induction k with
  | zero =>
    intro i hk hi s h
    obtain ⟨items, items2, n, n2, hl1, hb1, hs1, hs2, _⟩ := hl _ _ h
    have hi' : i = N := by omega
    have hR : R (.ok (.ret (.bool false))) s := fin s (hi' ▸ h)
    obtain ⟨hp, g, d, tk, os⟩ := s
    wp_walk using wpAny_loadPart' hl1, wpAny_loadPart' hb1
    have hi1 : items[((i : Nat) : Int).toNat]? = none := by simp; omega
    have hi2 : items2[((i : Nat) : Int).toNat]? = none := by simp; omega
    rw [hi1, hi2]
    wp_walk using wpAny_loadPart' hl1, wpAny_loadPart' hb1
    show R (.ok (.ret (.bool (items.size != items2.size)))) _
    rw [hs1, hs2]
    simpa using hR
  | succ k ih =>
    intro i hk hi s h
    obtain ⟨items, items2, n, n2, hl1, hb1, hs1, hs2, turn⟩ := hl _ _ h
    have hlt : i < items.size := by omega
    have hlt2 : i < items2.size := by omega
    have ht := turn hlt hlt2
    obtain ⟨hp, g, d, tk, os⟩ := s
    wp_walk using wpAny_loadPart' hl1, wpAny_loadPart' hb1
    have hi1 : items[((i : Nat) : Int).toNat]? = some items[i] := by simp [hlt]
    have hi2 : items2[((i : Nat) : Int).toNat]? = some items2[i] := by simp [hlt2]
    have hc : ((i : Int) + 1) = ((i + 1 : Nat) : Int) := by omega
    rw [hi1, hi2]
    refine wpAny_bind (wpAny_mono ht (fun r s2 h2 => ?_) fun _ _ x => x)
    obtain ⟨hr, h2⟩ := h2
    subst hr
    have hrec := ih (i + 1) (by omega) (by omega) s2 h2
    obtain ⟨hp2, g2, d2, tk2, os2⟩ := s2
    wp_walk
    rw [hc]
    exact ⟨plainId_quiet plain_eq_loop _, codeAny_builtin entry_eq_loop (by
      rw [Around.under_plainId plain_eq_loop _]
      exact hrec)⟩
theorem list_neG (l b : Addr) (N : Nat) (I : Nat → Shared → Prop) (hl : ListI prog w A (fun e s' => R (.error e) s') l b N I)
    (fin : ∀ s, I N s → R (.ok (.ret (.bool false))) s) {s : Shared} (h : I 0 s) :
    wpAny (model prog w) A.in1 (Builtin.«list.__ne__» ⟨[.ref l, .ref b], []⟩) (FinOf prog w A R) (fun e s' => R (.error e) s') s := by
  obtain ⟨items, items2, n, n2, hl1, hb1, hs1, hs2, _⟩ := hl _ _ h
  have hrec := ne_loopG (A := A) (R := R) l b N I hl fin _ 0 rfl (Nat.zero_le _) s h
  obtain ⟨hp, g, d, tk, os⟩ := s
  have f3 := AutoSeq1.sub_list_list
  have hne : ¬ (items.size != items2.size) = true := by simp [hs1, hs2]
  wp_walk using wpAny_loadPart' hl1, wpAny_loadPart' hb1
  exact ⟨plainId_quiet plain_eq_loop _, codeAny_builtin entry_eq_loop (by
    rw [Around.under_plainId plain_eq_loop _]
    exact hrec)⟩
end
section
variable {prog : Program} {w : World} {A : Around} {E : Value → Shared → Prop} {s : Shared}
theorem rc_list_neG {l b : Addr} {N : Nat} {Q : Value → Shared → Prop} (hu : A.units < cLine) (I : Nat → Shared → Prop) (hl : ListI prog w A E l b N I)
    (fin : ∀ s, I N s → Q (.bool false) s) (h : I 0 s) : wpAny (model prog w) A (richCompare .NotEq (.ref l) (.ref b)) Q E s := by
  obtain ⟨items, items2, n, n2, hl1, hb1, _, _, _⟩ := hl _ _ h
  refine wpAny_richCompare_same_room (op := .NotEq) ⟨_, hl1, rfl⟩ ⟨_, hb1, rfl⟩ F.slot_list_ne (call_here F.slot_list_ne ⟨_, hl1, rfl⟩ F.entry_list_ne (F.args_list_ne_2 _ _) ?_) hu
  exact list_neG (R := wants (fun v s' => v ≠ .notImplemented ∧ Q v s') E) l b N I hl (fun s' q => ⟨(fun x => nomatch x), fin s' q⟩) h
end
end FLG
namespace FL
open PySem PySem.Spec PyProof.Rows L2
/-! ### == by the text's own __eq__ -/
theorem no_cxF {P : Program} {w : World} {outer : List Env} {Hh : Hp} {sh : Shared} {e : Value} {s' : Shared} (h : L2.CX P w outer Hh sh (fun _ _ _ => False) e s') : False := by
  obtain ⟨a, B, H2, cls, d, _, _, _, _, _, _, _, z⟩ := h
  exact z
def rOwnEq (K : PySem.W.Frag) (C : Addr) (sp : Sp) : R2 := fun x y H Q => ∃ a dx fs tb, x = .ref a ∧ H a = some (.ins C dx fs) ∧ TyX K H y tb ∧ PySem.W.notFirst K C tb = true ∧ sp [x, y] H (fun v H' => ∃ b, v = .bl b ∧ Q (.bl b) H') (fun _ _ _ => False)
section
variable {X : Cx}
theorem op_ownEq {k : Nat} {f C : Addr} {fd : FuncData} {ps : List Str} {sp : Sp} (F : FnG X.prog X.w X.K X.mg X.base k f fd ps sp) (hr : RoomG k X.A) (hs : PySem.W.findIn X.K (.ref C) "__eq__" = some (some (.ref f))) (hf : PySem.W.isFn X.K (.ref f) = true) (hb : Binds X.K fd ps []) :
    OpR X (compareOp .Eq) (rOwnEq X.K C sp) := by
  intro pins s σ H x y v u Q I rx ry hq
  obtain ⟨a, dx, fs, tb, rfl, ha, ty, hn, q⟩ := hq
  cases rx
  show wpAny (model X.prog X.w) X.A (richCompare .Eq (.ref a) u) (EP X pins σ Q) X.xe s
  obtain ⟨mA, J, _⟩ := ins_get I.hok ha
  obtain ⟨od, J, _⟩ := J.look
  obtain ⟨m, hF⟩ := I.fr
  obtain ⟨Pu, KX, hP, _⟩ := kit_of I ry ty
  refine PySem.W.cmp_K (op := .Eq) (tb := tb) hr.room.units0 hF I.ok.mod.kin J (KX.ty _ _ I.kIn hP) hn hs hf ?_
  refine wpAny_mono (run_fnG (us := [.ref a, u]) (vs := [.ref a, y]) (dvs := []) (ds := []) (E := fun _ _ _ => False) (Q := fun v H' => ∃ b, v = .bl b ∧ Q (.bl b) H') F hr hb .nil (fun pins H s e s' I c => (no_cxF c).elim) I (.cons rfl (.cons ry .nil)) q) (fun r s' z => ?_) fun _ _ x => x
  obtain ⟨v, H', I', rv, b, rfl, q'⟩ := z
  cases rv
  exact ⟨.bl b, H', I', rfl, q'⟩
end
/-- what is known of the class c with its own == -/
structure TxEq (T : Tx) (P : Program) (w : World) (K : PySem.W.Frag) (mg : Str → Option Value) (base : Heap) (k : Nat) (c : Nat) (F : Fn) : Prop where
  ex : ∃ f fd ps, FnG P w K mg base k f fd ps (spF T 2 F) ∧ PySem.W.findIn K (.ref (T.ct c)) "__eq__" = some (some (.ref f)) ∧ PySem.W.isFn K (.ref f) = true ∧ Binds K fd ps []
  bi : ∀ t ∈ knownT, PySem.W.notFirst K (T.ct c) (.type t) = true
  ow : OwnC K (T.ct c)
def ansB : Res → Res
  | .ok (.d (.bl b)) s => okB b s
  | _ => .stuck
def okT (c : Nat) (y : Xv) (s : Sto) : Bool := match y with
  | .d (.obj k _ _) => k == c
  | y => (tyn y s).isSome
def eqOX (c : Nat) (F : Fn) (x y : Xv) (s : Sto) : Res := match x with
  | .d (.obj k _ _) => if k = c ∧ okT c y s = true then ansB (runC false F [x, y] s) else .stuck
  | x => eqX false x y s
section
variable {T : Tx} {X : Cx} {W : WX}
theorem okT_ok {w : Wd} {s : Sto} {H : Hp} {y : Xv} {v : V} {c k : Nat} {F : Fn} {P : Program} {w0 : World} {mg : Str → Option Value} {base : Heap} (E : TxEq T P w0 T.K mg base k c F) (r : RS T w s H) (e : RX T w y v) (h : okT c y s = true) : ∃ tb, TyX T.K H v tb ∧ PySem.W.notFirst T.K (T.ct c) tb = true := by
  unfold okT at h
  split at h
  · rename_i k' ns vs
    have hk : k' = c := by simpa using h
    subst hk
    exact ⟨_, obj_ty r E.ow e, by simp [PySem.W.notFirst]⟩
  · cases q : tyn y s with
    | none => rw [q] at h; cases h
    | some t => exact ⟨_, tyn_ok r e q, E.bi t (tyn_mem q)⟩
theorem eqO_ok {k c : Nat} {F : Fn} {P : Program} {w0 : World} {mg : Str → Option Value} {base : Heap} (E : TxEq T P w0 T.K mg base k c F) : Op2 T W (fun x y H Q => rOwnEq T.K (T.ct c) (spF T 2 F) x y H Q ∨ rEqD T.K x y H Q) (eqOX c F) := by
  intro st w x y u v s H Q hx hy r p
  unfold eqOX at p
  split at p
  · rename_i k' ns vs
    split at p
    · rename_i hc
      obtain ⟨rfl, hok⟩ := hc
      obtain ⟨tb, ty, hn⟩ := okT_ok E r hy hok
      have e' : R T w.G (.obj k' ns vs) u := hx
      unfold R at e'
      obtain ⟨a, dx, fs, e1, e2, _⟩ := e'
      refine .inl ⟨a, dx, fs, tb, e1, r.g _ _ e2, ty, hn, ?_⟩
      refine runC_ok (W := W0) (m := false) (st := st) (n := 2) (xs := [.d (.obj k' ns vs), y]) rfl (RXs.consX hx (RXs.consX hy rfl)) r ?_
      revert p
      cases runC false F [.d (.obj k' ns vs), y] s with
      | exc e s1 => exact fun p => p.elim
      | stuck => exact fun p => p.elim
      | ok z s1 =>
        intro p
        unfold ansB at p
        split at p
        · rename_i b s2 heq
          cases heq
          intro w' u' H' l rx r'
          exact ⟨b, X_bl rx, p w' _ H' l rX_bl r'⟩
        · exact p.elim
    · exact p.elim
  · rename_i x' _
    exact .inr (eq_ok st w _ y u v s H Q hx hy r p)
theorem eqOX_bl {c : Nat} {F : Fn} : Bl2 (eqOX c F) := fun x y s => by
  unfold eqOX
  split
  · split
    · rename_i hc
      cases runC false F [.d (.obj _ _ _), y] s with
      | exc e s1 => exact .inr rfl
      | stuck => exact .inr rfl
      | ok z s1 =>
        unfold ansB
        split
        · rename_i b s2 heq
          cases heq
          exact .inl ⟨b, _, rfl⟩
        · exact .inr rfl
    · exact .inr rfl
  · exact eqX_bl _ _ _
theorem o_eqO {k j c : Nat} {F : Fn} (E : TxEq T X.prog X.w X.K X.mg X.base j c F) (C : Cn T X W k) (hj : j ≤ k := by decide) : OpR X (compareOp .Eq) (fun x y H Q => rOwnEq T.K (T.ct c) (spF T 2 F) x y H Q ∨ rEqD T.K x y H Q) := by
  obtain ⟨f, fd, ps, G, h1, h2, h3⟩ := E.ex
  have q := op_ownEq (C := T.ct c) (G.mono hj) C.hr h1 h2 h3
  rw [C.hK] at q
  exact q.or (C.hK ▸ op_eqD C.un)

/-! ### lists with such instances in them, equal item by item -/
mutual
def beqD : D → D → Bool
  | .non, .non => true
  | .bl a, .bl b => a == b
  | .int a, .int b => a == b
  | .str a, .str b => a == b
  | .tup xs, .tup ys => beqDs xs ys
  | .lst xs, .lst ys => beqDs xs ys
  | .obj c ns vs, .obj c' ns' vs' => (c == c' && ns == ns') && beqDs vs vs'
  | _, _ => false
def beqDs : List D → List D → Bool
  | [], [] => true
  | x :: xs, y :: ys => beqD x y && beqDs xs ys
  | _, _ => false
end
mutual
theorem beqD_eq : ∀ {x y : D}, beqD x y = true → x = y := by
  intro x y h
  cases x <;> cases y <;> simp only [beqD, Bool.and_eq_true, beq_iff_eq, Bool.false_eq_true] at h <;> first | rfl | (cases h; rfl) | (rw [h]) | (rw [beqDs_eq h]) | (obtain ⟨⟨h1, h2⟩, h3⟩ := h; rw [h1, h2, beqDs_eq h3])
theorem beqDs_eq : ∀ {xs ys : List D}, beqDs xs ys = true → xs = ys := by
  intro xs ys h
  cases xs <;> cases ys <;> simp only [beqDs, Bool.and_eq_true, Bool.false_eq_true] at h <;> first | rfl | (obtain ⟨h1, h2⟩ := h; rw [beqD_eq h1, beqDs_eq h2])
end
end
section
variable {T : Tx} {X : Cx} {W : WX}
/-- == of two values that stand for the same data gives True -/
def EqN (T : Tx) (X : Cx) (n : Nat) (d : D) : Prop := ∀ (A : Around) (pins : List (Addr × Obj)) (s : Shared) (σ : L2.St) (H G : Hp) (x y : V) (u v : Value), RoomG n A → A.frames = X.A.frames → Inv X pins σ H s → RelV x u → RelV y v → Same G H → R T G d x → R T G d y →
  wpAny (model X.prog X.w) A (eqBool u v) (fun r s' => r = true ∧ ∃ H', Inv X pins σ H' s' ∧ Ext H H') X.xe s
theorem RoomG.in1 {n : Nat} {A : Around} (r : RoomG (n + 1) A) : RoomG n A.in1 := ⟨r.room.in1, r.gd⟩
theorem eqN_flat {d : D} {c : V} (hd : ∀ G v, R T G d v → v = c) (hf : flatV c = true) (he : eqV c c = true) {n : Nat} : EqN T X n d := by
  intro A pins s σ H G x y u v hr hA I rx ry sg hx hy
  cases hd _ _ hx
  cases hd _ _ hy
  have q := eqAt_V (A := A) (s := s) rx ry hf hf
  rw [he] at q
  exact q X.prog X.w X.xe _ ⟨rfl, H, I, Ext.rfl'⟩
theorem eqN_turn {n : Nat} {xs : List D} (h : ∀ d ∈ xs, EqN T X n d) {A : Around} (hr : RoomG (n + 1) A) (hA : A.frames = X.A.frames) {pins : List (Addr × Obj)} {σ : L2.St} {H G : Hp} {vs us : List V} {its its2 : List Value} (sg : Same G H) (p1 : Rs T G xs vs) (p2 : Rs T G xs us) (r : Vals vs its) (r2 : Vals us its2)
    (i : Nat) (h1 : i < its.toArray.size) (h2 : i < its2.toArray.size) (s' : Shared) (l : LoopI X pins σ H s') :
    wpAny (model X.prog X.w) A.in1 (eqBool its.toArray[i] its2.toArray[i]) (fun r s2 => r = true ∧ LoopI X pins σ H s2) X.xe s' := by
  obtain ⟨H1, I1, e1⟩ := l
  have g1 : its[i]? = some its.toArray[i] := by
    have h1' : i < its.length := by simpa using h1
    rw [List.getElem?_eq_getElem h1'] <;> simp
  have g2 : its2[i]? = some its2.toArray[i] := by
    have h2' : i < its2.length := by simpa using h2
    rw [List.getElem?_eq_getElem h2'] <;> simp
  have k1 : i < vs.length := by rw [r.length]; simpa using h1
  have k0 : i < xs.length := by rw [p1.length]; exact k1
  obtain ⟨x, hx, qx⟩ := Rs.get p1 (List.getElem?_eq_getElem k0)
  obtain ⟨y, hy, qy⟩ := Rs.get p2 (List.getElem?_eq_getElem k0)
  obtain ⟨u, hu, ru⟩ := r.get hx
  obtain ⟨v, hv, rv⟩ := r2.get hy
  rw [g1] at hu
  rw [g2] at hv
  rw [Option.some.inj hu, Option.some.inj hv]
  refine wpAny_mono (h _ (List.getElem_mem k0) A.in1 pins s' σ H1 G x y u v hr.in1 hA I1 ru rv (sg.trans e1) qx qy) (fun r s2 q => ?_) fun _ _ x => x
  obtain ⟨hr, H2, I2, e2⟩ := q
  exact ⟨hr, H2, I2, e1.trans e2⟩
/-- the two lists, at each turn -/
theorem listI {n : Nat} {xs : List D} (h : ∀ d ∈ xs, EqN T X n d) {A : Around} (hr : RoomG (n + 1) A) (hA : A.frames = X.A.frames) {pins : List (Addr × Obj)} {σ : L2.St} {H G : Hp} {a b : Addr} {vs us : List V} (sg : Same G H) (ha : G a = some (.lst vs)) (hb : G b = some (.lst us)) (p1 : Rs T G xs vs) (p2 : Rs T G xs us) :
    GQ.ListI X.prog X.w A X.xe a b xs.length fun _ s' => LoopI X pins σ H s' := by
  intro i s' q
  obtain ⟨H1, I1, e1⟩ := id q
  obtain ⟨z, its, k, r, e⟩ := I1.hok a _ (e1 _ _ (sg _ _ ha))
  obtain ⟨z2, its2, k2, r2, e2⟩ := I1.hok b _ (e1 _ _ (sg _ _ hb))
  refine ⟨its.toArray, its2.toArray, k, k2, e, e2, by rw [List.size_toArray, ← r.length, ← p1.length], by rw [List.size_toArray, ← r2.length, ← p2.length], fun h1 h2 => ?_⟩
  exact eqN_turn h hr hA sg p1 p2 r r2 i h1 h2 s' q
theorem eqN_lst {n : Nat} {xs : List D} (h : ∀ d ∈ xs, EqN T X n d) : EqN T X (n + 1) (.lst xs) := by
  intro A pins s σ H G x y u v hr hA I rx ry sg hx hy
  unfold R at hx hy
  obtain ⟨a, vs, rfl, h2, h3⟩ := hx
  obtain ⟨b, us, rfl, k2, k3⟩ := hy
  cases rx
  cases ry
  by_cases hab : a = b
  · subst hab
    exact SeqAt.EqAt.same (A := A) (s := s) (.ref a) X.prog X.w X.xe _ ⟨rfl, H, I, Ext.rfl'⟩
  · refine GQ.eqBool_refG hab (GQ.rc_listG hr.room.units0 (fun _ s' => LoopI X pins σ H s') (listI h hr hA sg h2 k2 h3 k3) (fun s' q => ⟨true, rfl, rfl, q⟩) ⟨H, I, Ext.rfl'⟩)
theorem eqN_tup (hK : X.K = T.K) {n : Nat} {xs : List D} (h : ∀ d ∈ xs, EqN T X n d) : EqN T X (n + 1) (.tup xs) := by
  intro A pins s σ H G x y u v hr hA I rx ry sg hx hy
  unfold R at hx hy
  obtain ⟨a, vs, rfl, h2, h3⟩ := hx
  obtain ⟨b, us, rfl, k2, k3⟩ := hy
  cases rx
  cases ry
  by_cases hab : a = b
  · subst hab
    exact SeqAt.EqAt.same (A := A) (s := s) (.ref a) X.prog X.w X.xe _ ⟨rfl, H, I, Ext.rfl'⟩
  · rw [← hK] at h2 k2
    obtain ⟨its, r, e, z⟩ := I.tuple (sqT_mono sg h2)
    obtain ⟨its2, r2, e2, z2⟩ := I.tuple (sqT_mono sg k2)
    have hsz : its.toArray.size = its2.toArray.size := by rw [List.size_toArray, List.size_toArray, ← r.length, ← r2.length, ← h3.length, ← k3.length]
    exact GQ.eqBool_refG hab (GQ.rc_tupG hsz hr.room.units0 (fun _ s' => LoopI X pins σ H s') e e2 (fun i h1 h2 s' q => eqN_turn h hr hA sg h3 k3 r r2 i h1 h2 s' q) (fun s' q => ⟨true, rfl, rfl, q⟩) ⟨H, I, Ext.rfl'⟩)
/-- an instance that its own == holds for equal to itself -/
def selfO (F : Fn) (d : D) : Bool := match F [.d d, .d d] [] with
  | .ok (.d (.bl true)) _ => true
  | _ => false
theorem eqN_obj {k c : Nat} {F : Fn} {ns : List Str} {xs : List D} (hK : X.K = T.K) (E : TxEq T X.prog X.w X.K X.mg X.base k c F) (hs : selfO F (.obj c ns xs) = true) {n : Nat} (hn : k ≤ n) : EqN T X n (.obj c ns xs) := by
  intro A pins s σ H G x y u v hr hA I rx ry sg hx hy
  obtain ⟨f, fd, ps, FG, q1, q2, q3⟩ := E.ex
  have hx' := hx
  have hy' := hy
  unfold R at hx' hy'
  obtain ⟨a, dx, fs, rfl, h2, h3, h4⟩ := hx'
  obtain ⟨b, dy, gs, rfl, k2, k3, k4⟩ := hy'
  cases rx
  cases ry
  by_cases hab : a = b
  · subst hab
    exact SeqAt.EqAt.same (A := A) (s := s) (.ref a) X.prog X.w X.xe _ ⟨rfl, H, I, Ext.rfl'⟩
  · obtain ⟨mA, J, _⟩ := ins_get I.hok (sg _ _ h2)
    obtain ⟨mB, J', _⟩ := ins_get I.hok (sg _ _ k2)
    obtain ⟨od, J, _⟩ := J.look
    obtain ⟨od', J', _⟩ := J'.look
    obtain ⟨m, hF⟩ := I.fr
    refine GQ.eqBool_refG hab (PySem.W.cmp_K (op := .Eq) (tb := .ref (T.ct c)) hr.room.units0 hF I.ok.mod.kin J J'.type (by simp [PySem.W.notFirst]) q1 q2 ?_)
    have e0 : Env0 X.prog X.w X.K X.mg X.base A X.stack s H := by
      have e := I.env0
      exact ⟨by rw [hA]; exact e.frames, e.mod, e.bs, e.bsz, e.funs, e.frf, e.hok, e.bare⟩
    let Z : Hp := fun a => if (G a).isSome = true then none else H a
    have hZ : Same Z H := fun a o h => by
      have h' : (if (G a).isSome = true then none else H a) = some o := h
      split at h'
      · cases h'
      · exact h'
    have r0 : RS T ⟨G, Z, []⟩ [] H := ⟨sg, hZ, fun a o h => by
      have h' : (if (G a).isSome = true then none else H a) = some o := h
      split at h'
      · cases h'
      · rename_i hn
        cases z : G a with
        | none => exact z
        | some u => rw [z] at hn; simp at hn, rfl, fun i o a e => by simp at e, fun i j o u a e => by simp at e⟩
    have hsp : spF T 2 F [.ref a, .ref b] H (fun v H' => v = .bl true ∧ Ext H H') (fun _ _ _ => False) := by
      refine ⟨⟨G, Z, []⟩, [.d (.obj c ns xs), .d (.obj c ns xs)], [], rfl, RXs.consX (x := .d (.obj c ns xs)) hx (RXs.consX (x := .d (.obj c ns xs)) hy rfl), r0, ?_⟩
      unfold selfO at hs
      split at hs
      · rename_i s2 hF
        rw [hF]
        intro w' u H' l rx r'
        refine ⟨X_bl rx, fun a o h => ?_⟩
        by_cases hg : (G a).isSome = true
        · obtain ⟨o', ho'⟩ := Option.isSome_iff_exists.mp hg
          have := sg _ _ ho'
          rw [h] at this
          cases this
          exact r'.g _ _ (l.g _ _ ho')
        · refine r'.z _ _ ?_
          rw [l.z]
          show (if (G a).isSome = true then none else H a) = some o
          rw [if_neg hg]
          exact h
      · cases hs
    have hl : ps.length = 2 := (FG.len _ _ _ _ hsp).symm
    have r2 : Vals [V.ref a, V.ref b] [Value.ref a, Value.ref b] := .cons rfl (.cons rfl .nil)
    refine wpAny_call (codeAny_mono (FG.run A X.stack s H ⟨[.ref a, .ref b], []⟩ [.ref a, .ref b] [.ref a, .ref b] _ _ (hr.mono hn) e0 (by
      have := q3 s [.ref a, .ref b] I.kIn (by simpa using hl.symm)
      simpa using this) r2 hsp) fun r s' hq => ?_)
    cases r with
    | error e => exact (no_cxF hq).elim
    | ok fl =>
      cases fl with
      | ret w =>
        obtain ⟨z, H', I', rz, ez, ex⟩ := I.after hq
        subst ez
        cases rz
        exact ⟨true, rfl, rfl, H', I', ex⟩
      | next => exact False.elim hq
      | brk => exact False.elim hq
      | cont => exact False.elim hq
def goodS (c : Nat) (F : Fn) : Nat → D → Bool
  | _, .non => true
  | _, .bl _ => true
  | _, .int _ => true
  | _, .str _ => true
  | n + 1, .tup xs => xs.all (goodS c F n)
  | n + 1, .lst xs => xs.all (goodS c F n)
  | _, .obj k ns vs => k == c && selfO F (.obj k ns vs)
  | _, _ => false
theorem eqN_good {k c : Nat} {F : Fn} (hK : X.K = T.K) (E : TxEq T X.prog X.w X.K X.mg X.base k c F) : ∀ {n : Nat} {d : D}, goodS c F n d = true → EqN T X (k + n) d
  | n, .non, _ => eqN_flat (c := .non) (fun G v h => R_non h) rfl rfl
  | n, .bl b, _ => eqN_flat (c := .bl b) (fun G v h => R_bl h) rfl (by cases b <;> rfl)
  | n, .int i, _ => eqN_flat (c := .int i) (fun G v h => R_int h) rfl (by simp [eqV])
  | n, .str x, _ => eqN_flat (c := .str x) (fun G v h => R_str h) rfl (by simp [eqV])
  | n + 1, .tup xs, h => eqN_tup hK fun d hd => eqN_good hK E (List.all_eq_true.mp (by unfold goodS at h; exact h) d hd)
  | n + 1, .lst xs, h => eqN_lst fun d hd => eqN_good hK E (List.all_eq_true.mp (by unfold goodS at h; exact h) d hd)
  | n, .obj k' ns vs, h => by
    have h' : (k' == c && selfO F (.obj k' ns vs)) = true := by
      cases n <;> exact h
    rw [Bool.and_eq_true] at h'
    have hk : k' = c := by simpa using h'.1
    subst hk
    exact eqN_obj hK E h'.2 (Nat.le_add_right _ _)
  | 0, .tup xs, h => by cases h
  | 0, .lst xs, h => by cases h
  | n, .ty _, h => by cases n <;> cases h
  | n, .adr _, h => by cases n <;> cases h
  | n, .scr _, h => by cases n <;> cases h
  | n, .cls _, h => by cases n <;> cases h
  | n, .exc _ _ _, h => by cases n <;> cases h
def rNeSame (T : Tx) (c : Nat) (F : Fn) : R2 := fun x y H Q => ∃ G xs, Same G H ∧ xs.all (goodS c F 5) = true ∧ R T G (.lst xs) x ∧ R T G (.lst xs) y ∧ ∀ H', Ext H H' → Q (.bl false) H'
theorem op_neSame {k c : Nat} {F : Fn} (hK : X.K = T.K) (E : TxEq T X.prog X.w X.K X.mg X.base k c F) (hr : RoomG (k + 6) X.A) : OpR X (compareOp .NotEq) (rNeSame T c F) := by
  intro pins s σ H x y u v Q I rx ry hq
  obtain ⟨G, xs, sg, hg, hx, hy, q⟩ := hq
  show wpAny (model X.prog X.w) X.A (richCompare .NotEq u v) (EP X pins σ Q) X.xe s
  unfold R at hx hy
  obtain ⟨a, vs, rfl, h2, h3⟩ := hx
  obtain ⟨b, us, rfl, k2, k3⟩ := hy
  cases rx
  cases ry
  refine FLG.rc_list_neG hr.room.units0 (fun _ s' => LoopI X pins σ H s') (listI (n := k + 5) (fun d hd => eqN_good hK E (List.all_eq_true.mp hg d hd)) hr rfl sg h2 k2 h3 k3) (fun s' z => ?_) ⟨H, I, Ext.rfl'⟩
  obtain ⟨H', I', e⟩ := z
  exact ⟨.bl false, H', I', rfl, q H' e⟩
def neOX (c : Nat) (F : Fn) (x y : Xv) (s : Sto) : Res := match x, y with
  | .d (.lst xs), .d (.lst ys) => if beqDs xs ys = true ∧ xs.all (goodS c F 5) = true then okB false s else eqX true x y s
  | x, y => eqX true x y s
theorem RS.ext {w : Wd} {s : Sto} {H H' : Hp} (r : RS T w s H) (e : Ext H H') : RS T w s H' :=
  ⟨r.g.trans e, r.z.trans e, r.gz, r.len, fun i o a e1 e2 e3 => by
    obtain ⟨ho, h1, h2⟩ := r.live i o a e1 e2 e3
    exact ⟨ho, e _ _ h1, h2⟩, r.inj⟩
theorem neO_ok {c : Nat} {F : Fn} : Op2 T W (fun x y H Q => rNeSame T c F x y H Q ∨ rNeD T.K x y H Q) (neOX c F) := by
  intro st w x y u v s H Q hx hy r p
  unfold neOX at p
  split at p
  · rename_i xs ys
    split at p
    · rename_i hc
      have e := beqDs_eq hc.1
      subst e
      exact .inl ⟨w.G, xs, r.g, hc.2, hx, hy, fun H' e => p w _ H' (.refl _) rX_bl (r.ext e)⟩
    · exact .inr (ne_ok st w _ _ u v s H Q hx hy r p)
  · exact .inr (ne_ok st w _ _ u v s H Q hx hy r p)
theorem neOX_bl {c : Nat} {F : Fn} : Bl2 (neOX c F) := fun x y s => by
  unfold neOX
  split
  · split
    · exact .inl ⟨_, _, rfl⟩
    · exact eqX_bl _ _ _
  · exact eqX_bl _ _ _
theorem o_neO {k j c : Nat} {F : Fn} (E : TxEq T X.prog X.w X.K X.mg X.base j c F) (C : Cn T X W k) (hj : j + 6 ≤ k := by decide) : OpR X (compareOp .NotEq) (fun x y H Q => rNeSame T c F x y H Q ∨ rNeD T.K x y H Q) :=
  (op_neSame C.hK E (C.hr.mono hj)).or (C.hK ▸ op_neD C.un)
end
end FL

set_option Elab.async false
set_option linter.all false
set_option maxRecDepth 100000
set_option maxHeartbeats 1000000
namespace FL
open PySem PySem.Spec PyProof.Rows L2
section
variable {T : Tx} {X : Cx} {W : WX} {ex : Nat → Bool}
/-! ### a built-in function that stands under a name of the module -/
theorem pe_callMB {x : Str} {p pos : Pos} {e : Expr} {es : List Expr} {id : String} {r : RN} {t : TA} (hc : CallR X (.builtin id) r) (hm : X.mg x = some (.builtin id)) (ha : PA X (e :: es) t) (hg : Gl X x := by rfl)
    (hdb : (x == ("__debug__" : Str)) = false := by decide) (he : starEach (e :: es) X.env = (false, eval e X.env) :: starEach es X.env := by rfl) (hpl : (backTo pos (starEach es X.env)).any (·.1) = false := by rfl) : PE X (.Call (.Name x p) (e :: es) [] pos) (tCB r t) := ⟨fun pins s σ H Q I h =>
  wpAny_Call_Name_kw (ld_glob I hg hm (PyProof.Rows.callWith_builtin1 (thn (ha.run pos pins s σ H _ I h) fun us s1 ⟨vs, H1, I1, r1, q1⟩ => hc pins s1 σ H1 vs us Q I1 r1 q1) he hpl) hdb)⟩
theorem pf_callMB {x : Str} {p pos : Pos} {e : Expr} {es : List Expr} {id : String} {r : RN} {o : List Xv → Sto → Res} {g : FA} (hc : CallR X (.builtin id) r) (h : OpN T W r o) (hm : X.mg x = some (.builtin id)) (ha : PFA T X W (e :: es) g) (hg : Gl X x := by rfl)
    (hdb : (x == ("__debug__" : Str)) = false := by decide) (he : starEach (e :: es) X.env = (false, eval e X.env) :: starEach es X.env := by rfl) (hpl : (backTo pos (starEach es X.env)).any (·.1) = false := by rfl) :
    PF T X W (.Call (.Name x p) (e :: es) [] pos) (callBF o g) := PE.imp (pe_callMB hc hm ha hg hdb he hpl) fun _ _ _ => rd_callB h
def rLcm : RN := fun xs H Q => ∃ i j : Int, xs = [.int i, .int j] ∧ i.natAbs < 2 ^ 64 ∧ j.natAbs < 2 ^ 64 ∧ Q (.int ((i.natAbs.lcm j.natAbs : Nat) : Int)) H
theorem call_lcm : CallR X (.builtin "math.lcm") rLcm := by
  rintro pins s σ H xs us Q I r ⟨i, j, rfl, hi, hj, q⟩
  cases r with
  | cons r1 r =>
    cases r with
    | cons r2 r =>
      cases r
      obtain ⟨t1, e1⟩ := (show ∃ t, _ = Value.int i t from r1)
      obtain ⟨t2, e2⟩ := (show ∃ t, _ = Value.int j t from r2)
      subst e1 e2
      exact PySem.W.mc_lcm hi hj fun _ => ⟨.int _, H, I.tok _, ⟨_, rfl⟩, q⟩
def lcmX (xs : List Xv) (s : Sto) : Res := match xs with
  | [.d (.int i), .d (.int j)] => if i.natAbs < 2 ^ 64 ∧ j.natAbs < 2 ^ 64 then okI ((i.natAbs.lcm j.natAbs : Nat) : Int) s else .stuck
  | _ => .stuck
theorem lcm_ok : OpN T W rLcm lcmX := by
  intro st w xs vs s H Q hx r p
  unfold lcmX at p
  split at p
  · split at p
    · rename_i hc
      obtain ⟨v, u, rfl, e, f⟩ := rxs2 hx
      cases X_int e
      cases X_int f
      exact ⟨_, _, rfl, hc.1, hc.2, okI_q p r⟩
    · exact p.elim
  · exact p.elim
/-! ### try .. except C as n: y = n.value -/
def tryValS (sub : Nat → Nat → Bool) (ex : Nat → Bool) (k i j : Nat) (b : FS) : FS := fun ρ s => match b ρ s with
  | .exc (.exc c ns vs) r s1 => if ex c = true ∧ i < r.length then (if sub c k = true then (match getN ns vs "value" with | some d => .nx ((((r.set i none).set j (some (.d d))).set i none)) s1 | none => .stuck) else .exc (.exc c ns vs) r s1) else .stuck
  | .exc _ _ _ => .stuck
  | o => o
theorem pe_xfA {a : Addr} {oe : Obj} {cls : Value} {d : Option Addr} {pn : List (Addr × Obj)} {e : Expr} {te : TE} {pos : Pos} {n : Str} (hz : Zc cls d oe) (hf : ∃ vs, oe.data = .fields vs) (he : PE (X.suite a ((a, oe) :: pn)) e te) (hb : attributeBase e n X.env (eval e X.env) = eval e X.env := by rfl) :
    PE (X.suite a ((a, oe) :: pn)) (.Attribute e n pos) (fun σ H Q => te σ H fun x H1 => x = .ref a ∧ ∃ (C : Addr) (dd : Addr) (fs : List (Str × V)) (v : V), cls = .ref C ∧ XfC X.K C ∧ PySem.W.findIn X.K (.ref C) n = some none ∧ d = some dd ∧ H1 dd = some (.xd fs) ∧ fs.lookup n = some v ∧ Q v H1) := by
  refine ⟨fun pins s σ H Q I h => ?_⟩
  refine attr_of hb (thn (he.run pins s σ H _ I h) fun u s1 hh => ?_)
  obtain ⟨x, H1, I1, rx, ex, C, dd, fs, v, ec, T, hno, ed, ea, l, q⟩ := hh
  subst ex
  obtain rfl : u = Value.ref a := rx
  subst ec
  subst ed
  obtain ⟨ha, _⟩ := I1.pin (a, oe) (List.mem_append_left _ List.mem_cons_self)
  obtain ⟨vs, hd⟩ := hf
  have hx : ObjOk X.prog X.w H1 s1.heap dd (.xd fs) := I1.hok dd _ ea
  obtain ⟨mA, hns, hr⟩ := hx
  obtain ⟨od, ho, hl⟩ := lookIn_ns hns
  obtain ⟨u, hu, ru⟩ := RelO.some_of (v := v) (o := mA n) (by rw [← l]; exact hr n)
  have J : PySem.W.InstAt s1.heap a oe C (some od) := ⟨ha, hz.1, by unfold PySem.W.notCls; rw [hd] <;> rfl, by rw [hz.2]; exact ho⟩
  exact HandSPX.exc_get I1.kIn J T.ga T.gg T.exC (PySem.W.findObj_own T.hdC hno rfl (by rw [hl, hu])) (handed_of ru) ⟨v, H1, I1.tok _, ru, q⟩
theorem pfs_tryVal {x n y : Str} {k i j : Nat} {body : List Stmt} {np p1 p2 p3 p4 pos pos' : Pos} {b : FS} (E : TxEx T ex) (hK : X.K = T.K) (hs : X.stack = X.env :: X.outer) (hf : X.env.frame = some X.env.locals) (hex : X.ex = []) (hfn : ∀ z, X.fn z = true) (tk : Takes X W) (hk : ex k = true) (hmc : X.mg x = some (.ref (T.ct k)))
    (hN : X.N.Nodup) (hb : ∀ (W' : WX) (pn : List (Addr × Obj)) (xe : Value → Shared → Prop), Takes (X.tr pn xe) W' → PassesOwn (model X.prog X.w) X.A X.env xe → PFSs T (X.tr pn xe) W' body b)
    (hi : X.N[i]? = some n := by rfl) (hj : X.N[j]? = some y := by rfl) (hij : i ≠ j := by decide) (hln : X.env.kindOf n = some .local := by rfl) (hly : X.env.scope.names.lookup y = some .local := by rfl) (hvn : Vis X.env.scope n := by exact .inl rfl) (hg : Gl X x := by rfl) (hdb : (x == ("__debug__" : Str)) = false := by decide) (hdn : (n == ("__debug__" : Str)) = false := by decide) (hdc : (n == ("__classdict__" : Str)) = false := by decide)
    (hab : attributeBase (.Name n p2) "value" X.env (eval (.Name n p2) X.env) = eval (.Name n p2) X.env := by rfl)
    (hsw : swapsWith (.Attribute (.Name n p2) "value" p4) (some (.Name y p1)) p3.line X.env = pure false := by rfl) :
    PFS T X W (.Try body [.ExceptHandler (some (.Name x np)) (some n) [.Assign [.Name y p1] (.Attribute (.Name n p2) "value" p4) p3] pos'] [] [] pos) (tryValS T.sub ex k i j b) := by
  refine PS.imp (ps_try_keep (tb := fun W' => rdS T W' b) (Wout := W) hs hf hex hN hi hln ⟨hg, hdb, .inl hmc⟩ tk hb (ts := fun a cls d => tAsg (fun σ H Q => tVar i σ H fun x H1 => x = .ref a ∧ ∃ (C : Addr) (dd : Addr) (fs : List (Str × V)) (v : V), cls = .ref C ∧ XfC X.K C ∧ PySem.W.findIn X.K (.ref C) "value" = some none ∧ d = some dd ∧ H1 dd = some (.xd fs) ∧ fs.lookup ("value" : Str) = some v ∧ Q v H1) (gName j)) fun a oe cls d pn hz hd => pss_one (ps_set (X := X.suite a ((a, oe) :: pn)) (i := j) hN hj (.inl hly) (pe_xfA hz hd (pe_var (X := X.suite a ((a, oe) :: pn)) hi hvn hdn hdc) hab) hsw (.inl (hfn y)))) fun D st H ⟨w, ρ, s, e, q, p⟩ => ?_
  refine ⟨w, ρ, s, e, q, ?_⟩
  unfold tryValS at p
  revert p
  cases b ρ s with
  | nx r s1 => exact fun p => p
  | rt v s1 => exact fun p => p
  | bk r s1 => exact fun p => p
  | ct r s1 => exact fun p => p
  | stuck => exact fun p => p
  | exc x0 r s1 =>
    intro p w1 cls d st1 H1 l1 xe e1 r1
    obtain ⟨c, ns, xs, fs, rfl, rfl, h3, h4, h5⟩ := xe
    dsimp only at p
    split at p
    · rename_i hc
      refine ⟨T.sub c k, by rw [hK]; exact E.ma c k hc.1 hk, fun hb a ha => ?_, fun hb => ?_⟩
      · rw [if_pos hb] at p
        split at p
        · rename_i dv hdv
          have il : i < st1.length := by
            rw [← e1.len]
            exact hc.2
          obtain ⟨v', hl, rv⟩ := getN_ok h4 h5 hdv
          have Kx := E.k c hc.1
          rcases h3 with ⟨_, h3⟩ | ⟨dd, h3, h6⟩
          · rw [h3] at hdv
            simp [getN] at hdv
          · subst h3
            refine ⟨.ref a, by rw [List.getElem?_set_self il], rfl, T.ct c, dd, fs, v', rfl, by rw [hK]; exact ⟨Kx.ga, Kx.gg, Kx.exC, Kx.hdC⟩, by rw [hK]; exact Kx.noV, rfl, r1.g _ _ h6, hl, ?_⟩
            obtain ⟨l2, r2⟩ := upd_held r1 ha (ExA (.ref (T.ct c)) (some dd) a)
            exact p _ _ _ (l1.trans l2) (RE.setN (RE.set (RE.setN (e1.mono l2)) j (RX.mono (x := .d dv) l2 rv))) r2
        · exact p.elim
      · rw [if_neg (by rw [hb]; exact Bool.false_ne_true)] at p
        exact p w1 _ _ st1 H1 l1 ⟨c, ns, xs, fs, rfl, rfl, h3, h4, h5⟩ e1 r1
    · exact p.elim
end
end FL

set_option Elab.async false
set_option linter.all false
set_option maxRecDepth 100000
set_option maxHeartbeats 1000000
namespace FL
open PySem PySem.Spec PyProof.Rows L2
/-- a method of the text, as the file shows it -/
structure MeF (K : PySem.W.Frag) (C : Addr) (m qual : Str) (st : Stmt) (f : Addr) : Prop where
  at_ : PySem.W.findIn K (.ref C) m = some (some (.ref f))
  isf : PySem.W.isFn K (.ref f) = true
  fn : ∃ fd, FunD K m qual (defArgs st) (defBody st) (defScope st) [] [] f fd
theorem meF {K : PySem.W.Frag} {C : Addr} {m qual : Str} {st : Stmt} {f : Addr} {oc : Value} {od : Option Addr} {kV doc pm : Value} {an : Option Addr} {cd ct : Value} {sl : Array (Option Value)} (a : PySem.W.findIn K (.ref C) m = some (some (.ref f))) (t : PySem.W.typeIn K (.ref f) = some (.type "function"))
    (l : K.lookup f = some ⟨oc, od, .func (PySem.W.fnOf m qual (defArgs st) (defBody st) (defScope st) .none kV doc pm an cd ct), sl⟩) (c : PySem.W.codeIn K cd qual = true) (k : PySem.W.keepIn K (.ref f) = true) : MeF K C m qual st f :=
  ⟨a, by unfold PySem.W.isFn; rw [t]; rfl, _, ⟨oc, od, .none, kV, doc, pm, an, cd, ct, sl, rfl, l, c, .inl ⟨rfl, rfl⟩, .inl rfl⟩, k⟩
section
variable {T : Tx} {P : Program} {w : World} {K : PySem.W.Frag} {mg : Str → Option Value} {base : Heap}
theorem defM_mk {k c : Nat} {x qual : Str} {st : Stmt} {f : Addr} {N ps : List Str} {fs : FS} {F : Fn} (A : MeF K (T.ct c) "__init__" qual st f) (mx : mg x = some (.ref (T.ct c))) (mk : PySem.W.makesIn K (T.ct c) = true) (kp : PySem.W.keepIn K (.ref (T.ct c)) = true) (S : FnScope N ps (defScope st)) (hF : bodyF (N.length - ps.length) fs = F)
    (hb : ∀ (kV doc pm : Value) (an : Option Addr) (cdv ct : Value) (us : List Value), us.length = ps.length → bindArgs (PySem.W.fnOf "__init__" qual (defArgs st) (defBody st) (defScope st) .none kV doc pm an cdv ct) ⟨us, []⟩ = pure (ps.zip us))
    (h : ∀ (q : Qx) (W : WX), RoomG k q.A → Takes (mkX P w K mg base N (defScope st) q) W → PassesOwn (model P w) q.A (enX (defScope st) q) q.xe → PFSs T (mkX P w K mg base N (defScope st) q) W (defBody st) fs) :
    DefM T P w K mg base (k + 1) x c ps [] F := by
  obtain ⟨fd, D⟩ := A.fn
  subst hF
  exact ⟨f, fd, [], [], fn_mk2 D S h, mx, ⟨mk, A.at_, A.isf, kp⟩, D.bindsN hb, .nil, fun G => by unfold Rs; rfl⟩
theorem defO_mk {k c : Nat} {m qual : Str} {st : Stmt} {f : Addr} {N ps : List Str} {fs : FS} {F : Fn} (A : MeF K (T.ct c) m qual st f) (cl : Cls K (T.ct c)) (S : FnScope N ps (defScope st)) (hF : bodyF (N.length - ps.length) fs = F)
    (hb : ∀ (kV doc pm : Value) (an : Option Addr) (cdv ct : Value) (us : List Value), us.length = ps.length → bindArgs (PySem.W.fnOf m qual (defArgs st) (defBody st) (defScope st) .none kV doc pm an cdv ct) ⟨us, []⟩ = pure (ps.zip us))
    (h : ∀ (q : Qx) (W : WX), RoomG k q.A → Takes (mkX P w K mg base N (defScope st) q) W → PassesOwn (model P w) q.A (enX (defScope st) q) q.xe → PFSs T (mkX P w K mg base N (defScope st) q) W (defBody st) fs) :
    DefO T P w K mg base (k + 1) c m ps [] F := by
  obtain ⟨fd, D⟩ := A.fn
  subst hF
  exact ⟨f, fd, [], [], fn_mk2 D S h, cl, ⟨A.at_, A.isf, D.kp⟩, D.bindsN hb, .nil, fun G => by unfold Rs; rfl⟩
theorem defE_mk {k c : Nat} {qual : Str} {st : Stmt} {f : Addr} {N ps : List Str} {fs : FS} {F : Fn} (A : MeF K (T.ct c) "__eq__" qual st f) (bi : ∀ t ∈ knownT, PySem.W.notFirst K (T.ct c) (.type t) = true) (ow : OwnC K (T.ct c)) (S : FnScope N ps (defScope st)) (hF : bodyF (N.length - ps.length) fs = F) (h2 : ps.length = 2)
    (hb : ∀ (kV doc pm : Value) (an : Option Addr) (cdv ct : Value) (us : List Value), us.length = ps.length → bindArgs (PySem.W.fnOf "__eq__" qual (defArgs st) (defBody st) (defScope st) .none kV doc pm an cdv ct) ⟨us, []⟩ = pure (ps.zip us))
    (h : ∀ (q : Qx) (W : WX), RoomG k q.A → Takes (mkX P w K mg base N (defScope st) q) W → PassesOwn (model P w) q.A (enX (defScope st) q) q.xe → PFSs T (mkX P w K mg base N (defScope st) q) W (defBody st) fs) :
    TxEq T P w K mg base (k + 1) c F := by
  obtain ⟨fd, D⟩ := A.fn
  subst hF
  exact ⟨⟨f, fd, ps, by have := fn_mk2 (T := T) (P := P) (w := w) (mg := mg) (base := base) D S h; rw [h2] at this ⊢; exact this, A.at_, A.isf, D.bindsN hb⟩, bi, ow⟩
end
end FL

set_option Elab.async false
set_option linter.all false
set_option maxRecDepth 100000
set_option maxHeartbeats 1000000
namespace FL
open PySem PySem.Spec PyProof.Rows L2
theorem nr {α : Sort _} {a b : α} (h : a = b) : a = b := h
/-! ### evaluation of the functional layer by simp -/
@[simp] theorem e_seq (a b : FS) (ρ s) : seqS a b ρ s = (a ρ s).andThen b := nr rfl
@[simp] theorem e_at_nx (r s k) : (Out.nx r s).andThen k = k r s := nr rfl
@[simp] theorem e_at_rt (v s k) : (Out.rt v s).andThen k = .rt v s := nr rfl
@[simp] theorem e_at_exc (e r s k) : (Out.exc e r s).andThen k = .exc e r s := nr rfl
@[simp] theorem e_skip (ρ s) : skipS ρ s = .nx ρ s := nr rfl
@[simp] theorem e_ret (f : FE) (ρ s) : retS f ρ s = (f ρ s).bindS ρ fun v s1 => .rt v s1 := nr rfl
@[simp] theorem e_set (i) (f : FE) (ρ s) : setS i f ρ s = (f ρ s).bindS ρ fun v s1 => .nx (ρ.set i (some v)) s1 := nr rfl
@[simp] theorem e_expr (f : FE) (ρ s) : exprS f ρ s = (f ρ s).bindS ρ fun _ s1 => .nx ρ s1 := nr rfl
@[simp] theorem e_raise (c) (f : FE) (ρ s) : raiseS c f ρ s = (f ρ s).bindS ρ fun v s1 => match v with | .d v => .exc (.exc c ["value"] [v]) ρ s1 | _ => .stuck := nr rfl
@[simp] theorem e_bS (v s ρ k) : (Res.ok v s).bindS ρ k = k v s := nr rfl
@[simp] theorem e_bSx (e s ρ k) : (Res.exc e s).bindS ρ k = .exc e ρ s := nr rfl
@[simp] theorem e_b (v s k) : (Res.ok v s).bind k = k v s := nr rfl
@[simp] theorem e_bx (e s k) : (Res.exc e s).bind k = .exc e s := nr rfl
@[simp] theorem e_bA (v s k) : (Res.ok v s).bindA k = k v s := nr rfl
@[simp] theorem e_bLA (v s k) : (ResL.ok v s).bindA k = k v s := nr rfl
@[simp] theorem e_bL (v s k) : (ResL.ok v s).bind k = k v s := nr rfl
@[simp] theorem e_lit (d ρ s) : litF d ρ s = .ok (.d d) s := nr rfl
@[simp] theorem e_var (i ρ s) : varF i ρ s = match ρ[i]? with | some (some v) => .ok v s | _ => .stuck := nr rfl
@[simp] theorem e_op2 (o f g ρ s) : op2F o f g ρ s = (f ρ s).bind fun x s1 => (g ρ s1).bind fun y s2 => o x y s2 := nr rfl
@[simp] theorem e_nil (ρ s) : nilA ρ s = .ok [] s := nr rfl
@[simp] theorem e_cons (f : FE) (g : FA) (ρ s) : consA f g ρ s = (f ρ s).bindA fun x s1 => (g ρ s1).bindA fun xs s2 => .ok (x :: xs) s2 := nr rfl
@[simp] theorem e_callB (o g ρ s) : callBF o g ρ s = (g ρ s).bind o := nr rfl
@[simp] theorem e_callF (m F dv g ρ s) : callF m F dv g ρ s = (g ρ s).bind fun xs s1 => runC m F (xs ++ dv.map .d) s1 := nr rfl
@[simp] theorem e_callKF (m n k F pm g ρ s) : callKF m n k F pm g ρ s = (g ρ s).bind fun xs s1 => if xs.length = k ∧ (permL pm xs).length = n then runC m F (permL pm xs) s1 else .stuck := nr rfl
@[simp] theorem e_and (f g : FE) (ρ s) : andF f g ρ s = (f ρ s).bind fun x s1 => match x with | .d (.bl true) => g ρ s1 | .d (.bl false) => okB false s1 | _ => .stuck := nr rfl
@[simp] theorem e_or (f g : FE) (ρ s) : orF f g ρ s = (f ρ s).bind fun x s1 => match x with | .d (.bl true) => okB true s1 | .d (.bl false) => g ρ s1 | _ => .stuck := nr rfl
@[simp] theorem e_not (f : FE) (ρ s) : notF f ρ s = (f ρ s).bind fun x s1 => match x with | .d (.bl b) => okB (!b) s1 | _ => .stuck := nr rfl
@[simp] theorem e_if (c a b : FE) (ρ s) : ifF c a b ρ s = (c ρ s).bind fun x s1 => match truth x s1 with | some true => a ρ s1 | some false => b ρ s1 | none => .stuck := nr rfl
@[simp] theorem e_ifS (c : FE) (a b : FS) (ρ s) : ifS c a b ρ s = (c ρ s).bindS ρ fun x s1 => match truth x s1 with | some true => a ρ s1 | some false => b ρ s1 | none => .stuck := nr rfl
@[simp] theorem t_bl (b s) : truth (.d (.bl b)) s = some b := nr rfl
@[simp] theorem e_neg (f : FE) (ρ s) : negF f ρ s = (f ρ s).bind fun x s1 => match x with | .d (.int i) => okI (-i) s1 | _ => .stuck := nr rfl
@[simp] theorem e_bits (f : FE) (ρ s) : bitsF f ρ s = (f ρ s).bind fun x s1 => match x with | .d (.int i) => okI (Builtin.Int.intBits i : Nat) s1 | _ => .stuck := nr rfl
@[simp] theorem e_okI (i s) : okI i s = .ok (.d (.int i)) s := nr rfl
@[simp] theorem e_okB (b s) : okB b s = .ok (.d (.bl b)) s := nr rfl
@[simp] theorem e_add (m i j s) : addX m (.d (.int i)) (.d (.int j)) s = .ok (.d (.int (i + j))) s := nr rfl
@[simp] theorem e_sub (i j s) : subX (.d (.int i)) (.d (.int j)) s = .ok (.d (.int (i - j))) s := nr rfl
theorem e_mod (i j s) (h : 0 < j) : modX (.d (.int i)) (.d (.int j)) s = .ok (.d (.int (i % j))) s := if_pos (decide_eq_true h)
theorem e_div (i j s) (h : 0 < j) (h2 : j.natAbs.log2 < 9000) : fdivX (.d (.int i)) (.d (.int j)) s = .ok (.d (.int (i / j))) s := if_pos (by
  show (decide (0 < j) && decide (j.natAbs.log2 < 9000)) = true
  rw [decide_eq_true h, decide_eq_true h2]
  rfl)
theorem e_mul (m i j s) (h : i.natAbs.log2 + j.natAbs.log2 < 1000000) : mulX m (.d (.int i)) (.d (.int j)) s = .ok (.d (.int (i * j))) s := if_pos h
@[simp] theorem e_lt (i j s) : ltX (.d (.int i)) (.d (.int j)) s = .ok (.d (.bl (decide (i < j)))) s := nr rfl
@[simp] theorem e_le (i j s) : leX (.d (.int i)) (.d (.int j)) s = .ok (.d (.bl (decide (i ≤ j)))) s := nr rfl
@[simp] theorem e_gt (i j s) : gtX (.d (.int i)) (.d (.int j)) s = .ok (.d (.bl (decide (j < i)))) s := nr rfl
@[simp] theorem e_ge (i j s) : geX (.d (.int i)) (.d (.int j)) s = .ok (.d (.bl (decide (j ≤ i)))) s := nr rfl
@[simp] theorem e_int (i s) : intX [.d (.int i)] s = .ok (.d (.int i)) s := nr rfl
theorem log_lt {n k : Nat} (h : n < 2 ^ (k + 1)) : n.log2 ≤ k := by
  by_cases h0 : n = 0
  · subst h0
    exact Nat.zero_le _
  · have q := (Nat.log2_lt h0).mpr h
    omega
theorem logI {i : Int} {k : Nat} (h : -(2 ^ k : Int) < i) (h2 : i < 2 ^ k) : i.natAbs.log2 ≤ k := by
  refine Nat.le_trans (log_lt (k := k) ?_) (Nat.le_refl _)
  have q : i.natAbs < 2 ^ k := by
    have e : ((2 ^ k : Nat) : Int) = (2 : Int) ^ k := by norm_cast
    omega
  exact Nat.lt_of_lt_of_le q (Nat.pow_le_pow_right (by decide) (Nat.le_succ k))
@[simp] theorem g_zero {α : Type} (a : α) (l : List α) : (a :: l)[0]? = some a := rfl
@[simp] theorem g_succ {α : Type} (a : α) (l : List α) (i : Nat) : (a :: l)[i + 1]? = l[i]? := rfl
/-- a number that is not large -/
def Bd (i : Int) : Prop := -(2 ^ 400 : Int) < i ∧ i < 2 ^ 400
theorem e_mul2 (m i j s) (h : Bd i) (k : Bd j) : mulX m (.d (.int i)) (.d (.int j)) s = .ok (.d (.int (i * j))) s := e_mul m i j s (by
  have q1 := logI h.1 h.2
  have q2 := logI k.1 k.2
  omega)
def runOut : Out → Res
  | .nx _ s' => .ok (.d .non) s'
  | .rt v s' => .ok v s'
  | .exc e _ s' => .exc e s'
  | _ => .stuck
theorem e_body (n f ds s) : bodyF n f ds s = runOut (f (ds.map some ++ List.replicate n none) s) := rfl
@[simp] theorem e_out1 (r s) : runOut (.nx r s) = .ok (.d .non) s := nr rfl
@[simp] theorem e_out2 (v s) : runOut (.rt v s) = .ok v s := nr rfl
@[simp] theorem e_out3 (e r s) : runOut (.exc e r s) = .exc e s := nr rfl
theorem run0_d {m : Bool} {F : Fn} {xs : List Xv} {s s2 : Sto} {v : D} (h : F xs [] = .ok (.d v) s2) (h0 : refsOf xs = []) : runC m F xs s = .ok (.d v) s := by
  unfold runC
  rw [h0]
  dsimp only
  unfold run0
  rw [h]
theorem run1_d {m : Bool} {F : Fn} {xs : List Xv} {rest s2 : Sto} {o o2 : List D} {v : D} (h : F (.ref 0 :: zero xs) [.lst o] = .ok (.d v) (.lst o2 :: s2)) (h0 : refsOf xs = []) : runC m F (.ref 0 :: xs) (.lst o :: rest) = .ok (.d v) (.lst o2 :: rest) := by
  unfold runC
  show (if allEq 0 (refsOf xs) = true then run1 m F (.ref 0 :: xs) 0 (.lst o :: rest) else .stuck) = _
  rw [h0]
  rw [if_pos (by rfl)]
  unfold run1
  show (match F (.ref 0 :: zero xs) [.lst o] with
    | .ok (.d v) s2 => match get0 s2 with | some o2 => Res.ok (.d v) ((O.lst o :: rest).set 0 o2) | none => .stuck
    | .ok (.ref j) s2 => match get0 s2 with
      | some o2 => if j = 0 then .ok (.ref 0) ((O.lst o :: rest).set 0 o2) else match s2[j]? with | some u => mkO m u ((O.lst o :: rest).set 0 o2) | none => .stuck
      | none => .stuck
    | .exc e s2 => match get0 s2 with | some o2 => .exc e ((O.lst o :: rest).set 0 o2) | none => .stuck
    | .stuck => .stuck) = _
  rw [h]
  rfl
/-! ### loops -/
theorem forF_inv {asg : Xv → Env' → Option Env'} {b : FS} (I : Nat → Env' → Sto → Prop) : ∀ (xs : List D) (i : Nat) {ρ : Env'} {s : Sto}, I i ρ s → (∀ (j : Nat) (x : D) (ρ : Env') (s : Sto), xs[j]? = some x → I (i + j) ρ s → ∃ r r' s', asg (.d x) ρ = some r ∧ b r s = .nx r' s' ∧ I (i + j + 1) r' s') →
    ∃ ρ' s', forF asg b xs ρ s = .nx ρ' s' ∧ I (i + xs.length) ρ' s'
  | [], i, ρ, s, h0, _ => ⟨ρ, s, rfl, h0⟩
  | x :: xs, i, ρ, s, h0, hs => by
    obtain ⟨r, r', s', e1, e2, e3⟩ := hs 0 x ρ s rfl h0
    obtain ⟨ρ2, s2, e4, e5⟩ := forF_inv I xs (i + 1) e3 (fun j y ρ s hj hI => by
      have q := hs (j + 1) y ρ s (by simpa using hj) (by rw [show i + (j + 1) = i + 1 + j by omega]; exact hI)
      rw [show i + (j + 1) + 1 = i + 1 + j + 1 by omega] at q
      exact q)
    refine ⟨ρ2, s2, ?_, by rw [List.length_cons, show i + (xs.length + 1) = i + 1 + xs.length by omega]; exact e5⟩
    unfold forF
    rw [e1]
    dsimp only
    rw [e2]
    exact e4
@[simp] theorem e_for (asg f b ρ s) : forS asg f b ρ s = (f ρ s).bindS ρ fun x s1 => match x with | .d (.lst xs) => forF asg b xs ρ s1 | _ => .stuck := nr rfl
@[simp] theorem e_name (i x ρ) : nameG i x ρ = some (ρ.set i (some x)) := nr rfl
theorem compN_st {asg : Xv → Env' → Option Env'} {f : FE} {ρ : Env'} (P : D → Prop) (J : Nat → Sto → Prop) : ∀ (xs : List D) (i : Nat) {s : Sto}, J i s → (∀ (j : Nat) (x : D) (s : Sto), xs[j]? = some x → J (i + j) s → ∃ r y s', asg (.d x) ρ = some r ∧ f r s = .ok (.d y) s' ∧ P y ∧ J (i + j + 1) s') →
    ∃ ys s', compN asg yesF f ρ xs s = some (ys, s') ∧ ys.length = xs.length ∧ (∀ y ∈ ys, P y) ∧ J (i + xs.length) s'
  | [], i, s, h0, _ => ⟨[], s, rfl, rfl, (fun y hy => nomatch hy), h0⟩
  | x :: xs, i, s, h0, hs => by
    obtain ⟨r, y, s', e1, e2, e3, e4⟩ := hs 0 x s rfl h0
    obtain ⟨ys, s2, e5, e6, e7, e8⟩ := compN_st P J xs (i + 1) (s := s') e4 (fun j y s hj hI => by
      have q := hs (j + 1) y s (by simpa using hj) (by rw [show i + (j + 1) = i + 1 + j by omega]; exact hI)
      rw [show i + (j + 1) + 1 = i + 1 + j + 1 by omega] at q
      exact q)
    refine ⟨y :: ys, s2, ?_, by simp [e6], fun z hz => ?_, by rw [List.length_cons, show i + (xs.length + 1) = i + 1 + xs.length by omega]; exact e8⟩
    · unfold compN
      rw [e1]
      show (match f r s with
          | .ok (.d y) s2 => match compN asg yesF f ρ xs s2 with
            | some (ys, s3) => some (y :: ys, s3)
            | none => none
          | _ => none) = _
      rw [e2]
      dsimp only
      rw [e5]
    · rcases List.mem_cons.mp hz with rfl | hz
      · exact e3
      · exact e7 z hz
theorem compN_map {asg : Xv → Env' → Option Env'} {f : FE} {ρ : Env'} {s : Sto} (g : D → D) : ∀ (xs : List D), (∀ x ∈ xs, ∃ r, asg (.d x) ρ = some r ∧ f r s = .ok (.d (g x)) s) → compN asg yesF f ρ xs s = some (xs.map g, s)
  | [], _ => rfl
  | x :: xs, h => by
    obtain ⟨r, e1, e2⟩ := h x (List.mem_cons_self ..)
    have e5 := compN_map g xs (fun y hy => h y (List.mem_cons_of_mem _ hy))
    unfold compN
    rw [e1]
    show (match f r s with
          | .ok (.d y) s2 => match compN asg yesF f ρ xs s2 with
            | some (ys, s3) => some (y :: ys, s3)
            | none => none
          | _ => none) = _
    rw [e2]
    dsimp only
    rw [e5]
    rfl
theorem compN_filter {asg : Xv → Env' → Option Env'} {t f : FE} {ρ : Env'} {s : Sto} (b : D → Bool) : ∀ (xs : List D), (∀ x ∈ xs, ∃ r, asg (.d x) ρ = some r ∧ t r s = .ok (.d (.bl (b x))) s ∧ f r s = .ok (.d x) s) → compN asg t f ρ xs s = some (xs.filter b, s)
  | [], _ => rfl
  | x :: xs, h => by
    obtain ⟨r, e1, e2, e3⟩ := h x (List.mem_cons_self ..)
    have e5 := compN_filter b xs (fun y hy => h y (List.mem_cons_of_mem _ hy))
    unfold compN
    rw [e1]
    dsimp only
    rw [e2]
    dsimp only
    cases hb : b x with
    | true =>
      rw [List.filter_cons_of_pos hb]
      show (match f r s with
          | .ok (.d y) s2 => match compN asg t f ρ xs s2 with
            | some (ys, s3) => some (y :: ys, s3)
            | none => none
          | _ => none) = _
      rw [e3]
      dsimp only
      rw [e5]
    | false =>
      rw [List.filter_cons_of_neg (by rw [hb]; exact Bool.false_ne_true)]
      exact e5
@[simp] theorem e_lc (m own asg f t g ρ s) : lcF m own asg f t g ρ s = (f ρ s).bind fun x s1 => match x with
  | .d (.lst xs) => if xs.length ≤ 1000000 then finL m [] (compN asg t g (wipeF ρ own) xs s1) else .stuck
  | _ => .stuck := nr rfl
@[simp] theorem e_wipe0 (ρ) : wipeF ρ [] = ρ := nr rfl
@[simp] theorem e_wipe1 (ρ v vs) : wipeF ρ (v :: vs) = (wipeF ρ vs).set v none := nr rfl
def rngK (xs : List Xv) (s1 : Sto) : Res := match xs with
  | [.d (.int j)] => if -(2 ^ 62) ≤ j ∧ j < 2 ^ 62 then .ok (.d (.lst (rngD 0 j.toNat))) s1 else .stuck
  | _ => .stuck
@[simp] theorem e_rng1 (g ρ s) : rng1F g ρ s = (g ρ s).bind rngK := nr rfl
theorem e_rng (j s) (h : 0 ≤ j) (h2 : j ≤ 1000000) : rngK [.d (.int j)] s = .ok (.d (.lst (rngD 0 j.toNat))) s := if_pos ⟨by omega, by omega⟩
theorem rng_len (lo n) : (rngD lo n).length = n := by unfold rngD; simp
theorem rng_at {lo : Int} {n j : Nat} {x : D} (h : (rngD lo n)[j]? = some x) : j < n ∧ x = .int (lo + j) := by
  have hj : j < n := by
    have := (List.getElem?_eq_some_iff.mp h).1
    rwa [rng_len] at this
  unfold rngD at h
  rw [List.getElem?_map, List.getElem?_range hj] at h
  cases h
  exact ⟨hj, rfl⟩
abbrev nsD (xs : List Int) : List D := xs.map .int
def isCnt : D → Bool
  | .int n => decide (0 ≤ n)
  | _ => false
def pl : D → Bool
  | .non => true
  | .bl _ => true
  | .int _ => true
  | .str _ => true
  | .tup _ => true
  | .lst _ => true
  | _ => false
@[simp] theorem len_t (xs s) : lenX [.d (.tup xs)] s = .ok (.d (.int xs.length)) s := nr rfl
@[simp] theorem len_l (xs s) : lenX [.d (.lst xs)] s = .ok (.d (.int xs.length)) s := nr rfl
@[simp] theorem eq_ii (n i j s) : eqX n (.d (.int i)) (.d (.int j)) s = .ok (.d (.bl (if n then !decide (i = j) else decide (i = j)))) s := by
  have e : PyData.eqv (toP (.int i)) (toP (.int j)) = decide (i = j) := by
    unfold toP PyData.eqv
    by_cases h : i = j
    · subst h; simp
    · simp [h]
  unfold eqX eqView
  dsimp only
  rw [if_pos (show (flatS 32 (.int i) && flatS 32 (.int j)) = true from rfl), e]
  rfl
@[simp] theorem none_n (n s) : isNoneX n (.d .non) (.d .non) s = .ok (.d (.bl (!n))) s := nr rfl
@[simp] theorem none_i (n i s) : isNoneX n (.d (.int i)) (.d .non) s = .ok (.d (.bl n)) s := nr rfl
@[simp] theorem isbl_b (n a b s) : isBlX n (.d (.bl a)) (.d (.bl b)) s = .ok (.d (.bl (if n then !decide (a = b) else decide (a = b)))) s := nr rfl
def isI : D → Bool
  | .int _ => true
  | _ => false
theorem eq_nil (xs : List D) (s) (h : flatS 32 (.lst xs) = true) : eqX false (.d (.lst xs)) (.d (.lst [])) s = .ok (.d (.bl xs.isEmpty)) s := by
  unfold eqX eqView
  dsimp only
  rw [if_pos (by rw [h]; rfl)]
  cases xs with
  | nil => rfl
  | cons a l =>
    unfold toP toPs PyData.eqv PyData.eqvAll
    rfl
theorem filt_emp (xs : List D) : (xs.filter (fun x => !isCnt x)).isEmpty = xs.all isCnt := by
  induction xs with
  | nil => rfl
  | cons a l ih =>
    rw [List.all_cons, List.filter_cons]
    cases h : isCnt a <;> simp [ih]
theorem flat_filter {n : Nat} {xs : List D} (f : D → Bool) (h : flatS (n + 1) (.lst xs) = true) : flatS (n + 1) (.lst (xs.filter f)) = true := by
  unfold flatS at h ⊢
  rw [List.all_eq_true] at h ⊢
  exact fun x hx => h x (List.mem_filter.mp hx).1
theorem flat_tl {n : Nat} {xs : List D} : flatS (n + 1) (.tup xs) = flatS (n + 1) (.lst xs) := by
  unfold flatS; rfl
/-- data the counting looks at -/
structure Ok (xs : List D) : Prop where
  pl : ∀ x ∈ xs, pl x = true
  fl : flatS 32 (.lst xs) = true
  le : xs.length ≤ 1000
theorem ok_ns {xs : List Int} (h : xs.length ≤ 1000) : Ok (nsD xs) := by
  refine ⟨fun x hx => ?_, ?_, by rw [List.length_map]; exact h⟩
  · obtain ⟨n, _, rfl⟩ := List.mem_map.mp hx
    rfl
  · unfold flatS
    rw [List.all_eq_true]
    intro x hx
    obtain ⟨n, _, rfl⟩ := List.mem_map.mp hx
    rfl
theorem all_ns {xs : List Int} (h : ∀ x ∈ xs, 0 ≤ x) : (nsD xs).all isCnt = true := by
  rw [List.all_eq_true]
  intro x hx
  obtain ⟨n, hn, rfl⟩ := List.mem_map.mp hx
  exact decide_eq_true (h n hn)
@[simp] theorem e_chain (o o' f g h ρ s) : chainF o o' f g h ρ s = (f ρ s).bind fun x s1 => (g ρ s1).bind fun y s2 => (o x y s2).bind (chainK o' h ρ y) := nr rfl
@[simp] theorem e_chk1 (o' h ρ y s) : chainK o' h ρ y (.d (.bl true)) s = (h ρ s).bind fun v s4 => o' y v s4 := nr rfl
@[simp] theorem e_chk2 (o' h ρ y s) : chainK o' h ρ y (.d (.bl false)) s = .ok (.d (.bl false)) s := nr rfl
@[simp] theorem at_0 (a : D) (l : List D) : atI (a :: l) 0 = some a := by
  unfold atI ixN
  simp
@[simp] theorem ix_tup0 (a l s) : ixX (.d (.tup (a :: l))) (.d (.int 0)) s = .ok (.d a) s := by
  show (match atI (a :: l) 0 with | some v => Res.ok (.d v) s | none => .stuck) = _
  rw [at_0]
theorem cut1 (a : D) (l : List D) : cutD (a :: l) (some 1) none = l := by
  unfold cutD
  have e1 : HT.sIx (a :: l).length 0 (some 1) = 1 := by
    show min 1 (l.length + 1) = 1
    omega
  rw [e1, HT.sIx_none]
  show l.take ((l.length + 1) - 1) = l
  rw [Nat.add_sub_cancel, List.take_length]
@[simp] theorem e_sl1 (a : D) (l : List D) (s) : slX false (.d (.tup (a :: l))) (.d (.int 1)) (.d .non) s = .ok (.d (.tup l)) s := by
  show Res.ok (.d (.tup (cutD (a :: l) (some 1) none))) s = _
  rw [cut1]
@[simp] theorem e_slF (m f l h ρ s) : slF m f l h ρ s = (f ρ s).bind fun x s1 => (l ρ s1).bind fun a s2 => if (prt a).isSome = true then (h ρ s2).bind fun b s3 => slX m x a b s3 else .stuck := nr rfl
@[simp] theorem e_intF (f ρ s) : intF f ρ s = (f ρ s).bind fun x s1 => match x with | .d (.int i) => okI i s1 | _ => .stuck := nr rfl
@[simp] theorem prt_i (i) : prt (.d (.int i)) = some (some i) := nr rfl
@[simp] theorem prt_n : prt (.d .non) = some none := nr rfl
@[simp] theorem e_zip (g ρ s) : zipSF g ρ s = (g ρ s).bind fun xs s1 => match xs with
  | [x, y] => match seqD x, seqD y with
    | some as, some bs => if as.length = bs.length then .ok (.d (.lst (zipD as bs))) s1 else .stuck
    | _, _ => .stuck
  | _ => .stuck := nr rfl
@[simp] theorem seqD_t (xs) : seqD (.d (.tup xs)) = some xs := nr rfl
@[simp] theorem seqD_l (xs) : seqD (.d (.lst xs)) = some xs := nr rfl
@[simp] theorem e_pair (i j x y ρ) : tupG 2 (consG (nameG i) (consG (nameG j) nilG)) (.d (.tup [x, y])) ρ = some ((ρ.set i (some (.d x))).set j (some (.d y))) := nr rfl
theorem forF_nil (asg b ρ s) : forF asg b [] ρ s = .nx ρ s := rfl
theorem forF_cons {asg : Xv → Env' → Option Env'} {b : FS} {x : D} {xs : List D} {ρ r r2 : Env'} {s s2 : Sto} (h : asg (.d x) ρ = some r) (h2 : b r s = .nx r2 s2) : forF asg b (x :: xs) ρ s = forF asg b xs r2 s2 := by
  conv => lhs; unfold forF
  rw [h]
  dsimp only
  rw [h2]
@[simp] theorem tuple_l (xs s) : tupleX [.d (.lst xs)] s = .ok (.d (.tup xs)) s := nr rfl
@[simp] theorem list_t (xs s) : listX false [.d (.tup xs)] s = .ok (.d (.lst xs)) s := nr rfl
@[simp] theorem list_l (xs s) : listX false [.d (.lst xs)] s = .ok (.d (.lst xs)) s := nr rfl
@[simp] theorem e_finL (ys s) : finL false [] (some (ys, s)) = .ok (.d (.lst ys)) s := nr rfl
@[simp] theorem e_yes (ρ s) : yesF ρ s = .ok (.d (.bl true)) s := nr rfl
@[simp] theorem e_tupF (g ρ s) : tupF g ρ s = (g ρ s).bind fun xs s1 => match pureAll xs with
  | some ds => if ds.length ≤ 1000000 then .ok (.d (.tup ds)) s1 else .stuck
  | none => .stuck := nr rfl
@[simp] theorem e_lstF (m g ρ s) : lstF m g ρ s = (g ρ s).bind fun xs s1 => match pureAll xs with
  | some ds => if ds.length ≤ 1000000 then mkL m ds s1 else .stuck
  | none => .stuck := nr rfl
@[simp] theorem pure_n : pureAll [] = some [] := nr rfl
@[simp] theorem pure_c (x xs) : pureAll (.d x :: xs) = (pureAll xs).map (x :: ·) := by
  show (match pureAll xs with | some r => some (x :: r) | none => none) = _
  cases pureAll xs <;> rfl
@[simp] theorem mkL_f (xs s) : mkL false xs s = .ok (.d (.lst xs)) s := nr rfl
@[simp] theorem mkL_t (xs s) : mkL true xs s = .ok (.ref s.length) (s ++ [.lst xs]) := nr rfl
theorem mul_tup (m) (a : List D) (k : Int) (s) (h : -1000 ≤ k ∧ k ≤ 1000 ∧ a.length ≤ 1000) : mulX m (.d (.tup a)) (.d (.int k)) s = .ok (.d (.tup (List.replicate k.toNat a).flatten)) s := if_pos h
theorem add_tup (m) (a b : List D) (s) (h : a.length + b.length ≤ 100000) : addX m (.d (.tup a)) (.d (.tup b)) s = .ok (.d (.tup (a ++ b))) s := if_pos (by rw [sizeLine_eq]; omega)
theorem add_lst (m) (a b : List D) (s) (h : a.length + b.length ≤ 100000) : addX m (.d (.lst a)) (.d (.lst b)) s = mkL m (a ++ b) s := if_pos (by rw [sizeLine_eq]; omega)
theorem rep_flat (n : Nat) (c : D) : (List.replicate n [c]).flatten = List.replicate n c := by
  induction n with
  | zero => rfl
  | succ n ih => rw [List.replicate_succ, List.flatten_cons, ih, List.replicate_succ]; rfl
theorem eq_nn (n s) : eqX n (.d (.lst [])) (.d (.lst [])) s = .ok (.d (.bl !n)) s := by cases n <;> rfl
theorem rngD_succ (lo : Int) (n : Nat) : rngD lo (n + 1) = .int lo :: rngD (lo + 1) n := by
  unfold rngD
  rw [List.range_succ_eq_map, List.map_cons, List.map_map]
  congr 1
  · simp
  · apply List.map_congr_left
    intro a _
    simp
    omega
theorem compN_rng {asg : Xv → Env' → Option Env'} {f : FE} {ρ : Env'} {s : Sto} : ∀ (zs : List D) (lo : Int), (∀ (j : Nat) (v : D), zs[j]? = some v → ∃ r, asg (.d (.int (lo + j))) ρ = some r ∧ f r s = .ok (.d v) s) → compN asg yesF f ρ (rngD lo zs.length) s = some (zs, s)
  | [], lo, _ => rfl
  | z :: zs, lo, h => by
    obtain ⟨r, e1, e2⟩ := h 0 z rfl
    have e5 := compN_rng zs (lo + 1) (fun j v k => by
      have q := h (j + 1) v k
      rw [show lo + ((j + 1 : Nat) : Int) = lo + 1 + j by push_cast; omega] at q
      exact q)
    rw [List.length_cons, rngD_succ]
    unfold compN
    rw [show lo + ((0 : Nat) : Int) = lo by simp] at e1
    rw [e1]
    show (match f r s with
          | .ok (.d y) s2 => match compN asg yesF f ρ (rngD (lo + 1) zs.length) s2 with
            | some (ys, s3) => some (y :: ys, s3)
            | none => none
          | _ => none) = _
    rw [e2]
    dsimp only
    rw [e5]
theorem at_nat {α : Type} {xs : List α} {j : Nat} {v : α} (h : xs[j]? = some v) : atI xs (j : Int) = some v := by
  have hj := (List.getElem?_eq_some_iff.mp h).1
  unfold atI ixN
  rw [if_pos (by omega), if_pos (by omega)]
  exact h
theorem ix_t {xs : List D} {j : Nat} {v : D} {s} (h : xs[j]? = some v) : ixX (.d (.tup xs)) (.d (.int (j : Int))) s = .ok (.d v) s := by
  show (match atI xs (j : Int) with | some v => Res.ok (.d v) s | none => .stuck) = _
  rw [at_nat h]
theorem ix_l {xs : List D} {j : Nat} {v : D} {s} (h : xs[j]? = some v) : ixX (.d (.lst xs)) (.d (.int (j : Int))) s = .ok (.d v) s := by
  show (match atI xs (j : Int) with | some v => Res.ok (.d v) s | none => .stuck) = _
  rw [at_nat h]
theorem allInts_ns : ∀ (xs : List Int), allInts (nsD xs) = some xs
  | [] => rfl
  | x :: xs => by
    show (match allInts (nsD xs) with | some r => some (x :: r) | none => none) = _
    rw [allInts_ns xs]
@[simp] theorem sum_ns (xs : List Int) (s) : sumX [.d (.lst (nsD xs))] s = .ok (.d (.int xs.sum)) s := by
  show (match allInts (nsD xs) with | some ns => okI ns.sum s | none => .stuck) = _
  rw [allInts_ns]
  rfl
def IsN (b : Int) (y : D) : Prop := ∃ r, y = .int r ∧ 0 ≤ r ∧ r < b
theorem isN_ns {b : Int} : ∀ {ys : List D}, (∀ y ∈ ys, IsN b y) → ∃ zs, ys = nsD zs ∧ ∀ z ∈ zs, 0 ≤ z ∧ z < b
  | [], _ => ⟨[], rfl, (fun z hz => nomatch hz)⟩
  | y :: ys, h => by
    obtain ⟨zs, rfl, h2⟩ := isN_ns (ys := ys) (fun y hy => h y (List.mem_cons_of_mem _ hy))
    obtain ⟨r, rfl, h3⟩ := h y (List.mem_cons_self ..)
    refine ⟨r :: zs, rfl, fun z hz => ?_⟩
    rcases List.mem_cons.mp hz with rfl | hz
    · exact h3
    · exact h2 z hz
abbrev tp60 : Int := 1000000000000000000000000000000000000000000000000000000000000
mutual
theorem eqv_r : ∀ {n : Nat} {d : D}, flatS n d = true → PyData.eqv (toP d) (toP d) = true
  | n, .non, _ => by unfold toP PyData.eqv; rfl
  | n, .bl b, _ => by unfold toP PyData.eqv; exact beq_self_eq_true b
  | n, .int i, _ => by unfold toP PyData.eqv; exact beq_self_eq_true i
  | n, .str x, _ => by unfold toP PyData.eqv; exact beq_self_eq_true x
  | 0, .tup xs, h => by cases h
  | 0, .lst xs, h => by cases h
  | n + 1, .tup xs, h => by
    unfold toP PyData.eqv
    exact eqv_rs (n := n) (List.all_eq_true.mp h)
  | n + 1, .lst xs, h => by
    unfold toP PyData.eqv
    exact eqv_rs (n := n) (List.all_eq_true.mp h)
  | n, .ty _, h => by cases n <;> cases h
  | n, .adr _, h => by cases n <;> cases h
  | n, .cls _, h => by cases n <;> cases h
  | n, .scr _, h => by cases n <;> cases h
  | n, .obj _ _ _, h => by cases n <;> cases h
  | n, .exc _ _ _, h => by cases n <;> cases h
theorem eqv_rs : ∀ {n : Nat} {ds : List D}, (∀ x ∈ ds, flatS n x = true) → PyData.eqvAll (toPs ds) (toPs ds) = true
  | n, [], _ => by unfold toPs PyData.eqvAll; rfl
  | n, d :: ds, h => by
    unfold toPs PyData.eqvAll
    rw [eqv_r (h d (List.mem_cons_self ..)), eqv_rs (n := n) (fun x hx => h x (List.mem_cons_of_mem _ hx))]
    rfl
end
theorem eqX_r (m : Bool) {d : D} (s) (h : flatS 32 d = true) : eqX m (.d d) (.d d) s = .ok (.d (.bl (!m))) s := by
  unfold eqX eqView
  dsimp only
  rw [if_pos (by rw [h]; rfl), eqv_r h]
  cases m <;> rfl
theorem flat_ns {n : Nat} (xs : List Int) : flatS (n + 1) (.tup (nsD xs)) = true := by
  unfold flatS
  rw [List.all_eq_true]
  intro x hx
  obtain ⟨k, _, rfl⟩ := List.mem_map.mp hx
  cases n <;> rfl
theorem setg_ne {ρ : Env'} {i j : Nat} {x : Option Xv} (h : i ≠ j) : (ρ.set i x)[j]? = ρ[j]? := List.getElem?_set_ne h
theorem setg_self {ρ : Env'} {i : Nat} {x : Option Xv} (h : i < ρ.length) : (ρ.set i x)[i]? = some x := List.getElem?_set_self h
theorem v_at {ρ : Env'} {i : Nat} {x : Xv} {s} (h : ρ[i]? = some (some x)) : varF i ρ s = .ok x s := by
  rw [e_var, h]
theorem at_ns {g : List Int} {p : Nat} (h : p < g.length) : (nsD g)[p]? = some (.int (g.getD p 0)) := by
  rw [List.getElem?_map, List.getD_eq_getElem?_getD, List.getElem?_eq_getElem h]
  rfl
theorem seq_go {a b : FS} {ρ r : Env'} {s s2 : Sto} {x : Out} (h : a ρ s = .nx r s2) (k : b r s2 = x) : seqS a b ρ s = x := by
  rw [e_seq, h]
  exact k
theorem compN_get {asg : Xv → Env' → Option Env'} {f : FE} {ρ : Env'} {s : Sto} : ∀ (xs zs : List D), xs.length = zs.length → (∀ (j : Nat) (x z : D), xs[j]? = some x → zs[j]? = some z → ∃ r, asg (.d x) ρ = some r ∧ f r s = .ok (.d z) s) → compN asg yesF f ρ xs s = some (zs, s)
  | [], [], _, _ => rfl
  | [], _ :: _, h, _ => by cases h
  | _ :: _, [], h, _ => by cases h
  | x :: xs, z :: zs, hl, h => by
    obtain ⟨r, e1, e2⟩ := h 0 x z rfl rfl
    have e5 := compN_get xs zs (by simpa using hl) (fun j v k hv hk => h (j + 1) v k hv hk)
    unfold compN
    rw [e1]
    show (match f r s with
          | .ok (.d y) s2 => match compN asg yesF f ρ xs s2 with
            | some (ys, s3) => some (y :: ys, s3)
            | none => none
          | _ => none) = _
    rw [e2]
    dsimp only
    rw [e5]
theorem compN_none {asg : Xv → Env' → Option Env'} {t f : FE} {ρ : Env'} {s : Sto} : ∀ (xs : List D), (∀ x ∈ xs, ∃ r, asg (.d x) ρ = some r ∧ t r s = .ok (.d (.bl false)) s) → compN asg t f ρ xs s = some ([], s)
  | [], _ => rfl
  | x :: xs, h => by
    obtain ⟨r, e1, e2⟩ := h x (List.mem_cons_self ..)
    have e5 := compN_none (t := t) (f := f) xs (fun y hy => h y (List.mem_cons_of_mem _ hy))
    unfold compN
    rw [e1]
    dsimp only
    rw [e2]
    exact e5
theorem cut_lo {α : Type} {xs : List α} {j : Nat} (h : j ≤ xs.length) : cutD xs none (some (j : Int)) = xs.take j := by
  unfold cutD
  rw [HT.sIx_none, HT.sIx_nat, Nat.min_eq_left h]
  rfl
theorem cut_hi {α : Type} {xs : List α} {j : Nat} (h : j ≤ xs.length) : cutD xs (some (j : Int)) none = xs.drop j := by
  unfold cutD
  rw [HT.sIx_none, HT.sIx_nat, Nat.min_eq_left h]
  exact List.take_of_length_le (by rw [List.length_drop]; exact Nat.le_refl _)
theorem e_sl_lo {xs : List D} {j : Nat} (m s) (h : j ≤ xs.length) : slX m (.d (.tup xs)) (.d .non) (.d (.int (j : Int))) s = .ok (.d (.tup (xs.take j))) s := by
  show Res.ok (.d (.tup (cutD xs none (some (j : Int))))) s = _
  rw [cut_lo h]
theorem e_sl_hi {xs : List D} {j : Nat} (m s) (h : j ≤ xs.length) : slX m (.d (.tup xs)) (.d (.int (j : Int))) (.d .non) s = .ok (.d (.tup (xs.drop j))) s := by
  show Res.ok (.d (.tup (cutD xs (some (j : Int)) none))) s = _
  rw [cut_hi h]
theorem e_app {g : FA} {ρ : Env'} {s : Sto} {fv : FE} {i : Nat} {xs : List D} {y : D} (h : fv ρ s = .ok (.ref i) s) (h2 : g ρ s = .ok [.d y] s) (h3 : s[i]? = some (.lst xs)) (h4 : xs.length < 1000000) : appF fv g ρ s = .ok (.d .non) (s.set i (.lst (xs ++ [y]))) := by
  unfold appF
  rw [h, e_b]
  dsimp only
  rw [h3]
  dsimp only
  rw [h2, e_bL]
  dsimp only
  rw [h3]
  dsimp only
  rw [if_pos h4]
theorem nat_of {r : Int} {b : Nat} (h : 0 ≤ r) (h2 : r < b) : ∃ j : Nat, r = j ∧ j < b := ⟨r.toNat, by omega, by omega⟩
@[simp] theorem e_asg (asg) (f : FE) (ρ s) : asgS asg f ρ s = (f ρ s).bindS ρ fun v s1 => match asg v ρ with | some r => .nx r s1 | none => .stuck := nr rfl
theorem pow18 (s) : powX (.d (.int 10)) (.d (.int 18)) s = .ok (.d (.int 1000000000000000000)) s := by
  show (if cPow 10 18 = true then Res.ok (.d (.int (10 ^ (18 : Int).toNat))) s else .stuck) = _
  rw [if_pos (by decide +kernel), show ((10 : Int) ^ (18 : Int).toNat) = 1000000000000000000 by decide +kernel]
theorem pow60 (s) : powX (.d (.int 10)) (.d (.int 60)) s = .ok (.d (.int tp60)) s := by
  show (if cPow 10 60 = true then Res.ok (.d (.int (10 ^ (60 : Int).toNat))) s else .stuck) = _
  rw [if_pos (by decide +kernel), show ((10 : Int) ^ (60 : Int).toNat) = tp60 by decide +kernel]
theorem pow600 : ∃ b : Int, 0 < b ∧ ∀ s, powX (.d (.int tp60)) (.d (.int 10)) s = .ok (.d (.int b)) s :=
  ⟨tp60 ^ (10 : Int).toNat, by decide +kernel, fun s => by
    show (if cPow tp60 10 = true then Res.ok (.d (.int (tp60 ^ (10 : Int).toNat))) s else .stuck) = _
    rw [if_pos (by decide +kernel)]⟩
@[simp] theorem e_max (i j s) : maxX [.d (.int i), .d (.int j)] s = .ok (.d (.int (if j > i then j else i))) s := nr rfl
theorem len_scr (a s) : lenX [.d (.scr a)] s = .ok (.d (.int a.length)) s := nr rfl
theorem ix_scr {xs : List Int} {j : Nat} {v : Int} {s} (h : xs[j]? = some v) : ixX (.d (.scr xs)) (.d (.int (j : Int))) s = .ok (.d (.int v)) s := by
  show (match atI xs (j : Int) with | some v => okI v s | none => .stuck) = _
  rw [at_nat h]
  rfl
theorem sl_scr (xs : List Int) (s) : slX false (.d (.scr xs)) (.d .non) (.d (.int 1)) s = .ok (.d (.lst (nsD (cutD xs none (some 1))))) s := nr rfl
/-- the bounds that are asked for -/
structure BdOk (bd : Int) (t : Nat) : Prop where
  pos : 0 < bd
  lg : bd.natAbs.log2 < 9000
  tn : 1 + (Builtin.Int.intBits bd : Int) / 30 = (t : Int)
  le : t ≤ 4
theorem bd3 : BdOk 3 1 := ⟨by decide, by decide +kernel, by decide +kernel, by decide⟩
theorem bd4 : BdOk 4 1 := ⟨by decide, by decide +kernel, by decide +kernel, by decide⟩
theorem bd5 : BdOk 5 1 := ⟨by decide, by decide +kernel, by decide +kernel, by decide⟩
theorem bd9 : BdOk 9 1 := ⟨by decide, by decide +kernel, by decide +kernel, by decide⟩
theorem bd25 : BdOk (10 ^ 25) 3 := ⟨by decide, by decide +kernel, by decide +kernel, by decide⟩
theorem bd30 : BdOk (10 ^ 30) 4 := ⟨by decide, by decide +kernel, by decide +kernel, by decide⟩
end FL

set_option Elab.async false
set_option linter.all false
set_option maxRecDepth 100000
set_option maxHeartbeats 1000000
namespace FL
open PySem PySem.Spec PyProof.Rows L2
/-! ### instances -/
@[simp] theorem e_meth (r c m F dv f g ρ s) : methF r c m F dv f g ρ s = (f ρ s).bind fun x s1 => match insV x s1 with
  | some (k, ns, _) => if k = c ∧ ns.contains m = false then (g ρ s1).bind fun xs s2 => runC r F (x :: (xs ++ dv.map .d)) s2 else .stuck
  | none => .stuck := nr rfl
@[simp] theorem e_fldF (own n f ρ s) : fldF own n f ρ s = (f ρ s).bind fun x s1 => match insV x s1 with
  | some (c, ns, vs) => match getN ns vs n with
    | some d => if own c = true then .ok (.d d) s1 else .stuck
    | none => .stuck
  | none => .stuck := nr rfl
@[simp] theorem insV_o (c ns vs s) : insV (.d (.obj c ns vs)) s = some (c, ns, vs) := nr rfl
@[simp] theorem e_make (m c F dv g ρ s) : makeF m c F dv g ρ s = (g ρ s).bind fun xs s1 => runM m c F (xs ++ dv.map .d) s1 := nr rfl
@[simp] theorem getN_1 (n v) : getN [n] [v] n = some v := by unfold getN; simp
theorem runM_d {c : Nat} {F : Fn} {xs : List Xv} {s s2 : Sto} {k : Nat} {ns : List Str} {vs : List D} (h : F (.ref 0 :: xs) [.ins c [] []] = .ok (.d .non) (.ins k ns vs :: s2)) (h0 : refsOf xs = []) : runM false c F xs s = .ok (.d (.obj k ns vs)) s := by
  unfold runM
  rw [h0]
  dsimp only
  rw [h]
  rfl
theorem runM_x {m : Bool} {c : Nat} {F : Fn} {xs : List Xv} {s s2 : Sto} {e : D} (h : F (.ref 0 :: xs) [.ins c [] []] = .exc e s2) (h0 : refsOf xs = []) : runM m c F xs s = .exc e s := by
  unfold runM
  rw [h0]
  dsimp only
  rw [h]
theorem run0_x {m : Bool} {F : Fn} {xs : List Xv} {s s2 : Sto} {e : D} (h : F xs [] = .exc e s2) (h0 : refsOf xs = []) : runC m F xs s = .exc e s := by
  unfold runC
  rw [h0]
  dsimp only
  unfold run0
  rw [h]
theorem run0_l {F : Fn} {xs : List Xv} {s s2 : Sto} {j : Nat} {l : List D} (h : F xs [] = .ok (.ref j) s2) (h2 : s2[j]? = some (.lst l)) (h0 : refsOf xs = []) : runC false F xs s = .ok (.d (.lst l)) s := by
  unfold runC
  rw [h0]
  dsimp only
  unfold run0
  rw [h]
  dsimp only
  rw [h2]
  rfl
@[simp] theorem e_lcm (i j s) : lcmX [.d (.int i), .d (.int j)] s = if i.natAbs < 2 ^ 64 ∧ j.natAbs < 2 ^ 64 then .ok (.d (.int ((i.natAbs.lcm j.natAbs : Nat) : Int))) s else .stuck := nr rfl
@[simp] theorem e_par2 (i j g ρ s) : par2S i j g ρ s = match g ρ s with
  | .ok [x, y] s1 => .nx ((ρ.set i (some x)).set j (some y)) s1
  | .ok _ _ => .stuck
  | .exc e s1 => .exc e ρ s1
  | .stuck => .stuck := by
  unfold par2S
  cases g ρ s with
  | ok v s1 =>
    match v with
    | [] => rfl
    | [_] => rfl
    | [_, _] => rfl
    | _ :: _ :: _ :: _ => rfl
  | exc e s1 => rfl
  | stuck => rfl
/-! ### trees of numbers -/
mutual
def intT : D → Bool
  | .int _ => true
  | .bl _ => false
  | .tup xs => intTs xs
  | .lst xs => intTs xs
  | _ => false
def intTs : List D → Bool
  | [] => true
  | x :: xs => intT x && intTs xs
end
mutual
theorem beqD_r : ∀ {x : D}, intT x = true → beqD x x = true := by
  intro x h
  cases x <;> simp only [intT, Bool.false_eq_true] at h <;> simp only [beqD, beq_self_eq_true] <;> exact beqDs_r h
theorem beqDs_r : ∀ {xs : List D}, intTs xs = true → beqDs xs xs = true := by
  intro xs h
  cases xs with
  | nil => rfl
  | cons x xs =>
    simp only [intTs, Bool.and_eq_true] at h
    simp only [beqDs, beqD_r h.1, beqDs_r h.2, Bool.and_self]
end
mutual
theorem eqv_b : ∀ {x y : D}, intT x = true → intT y = true → PyData.eqv (toP x) (toP y) = beqD x y := by
  intro x y hx hy
  cases x <;> simp only [intT, Bool.false_eq_true] at hx <;> cases y <;> simp only [intT, Bool.false_eq_true] at hy <;> simp only [toP, PyData.eqv, beqD] <;> exact eqvs_b hx hy
theorem eqvs_b : ∀ {xs ys : List D}, intTs xs = true → intTs ys = true → PyData.eqvAll (toPs xs) (toPs ys) = beqDs xs ys := by
  intro xs ys hx hy
  cases xs with
  | nil => cases ys <;> simp only [toPs, PyData.eqvAll, beqDs]
  | cons x xs =>
    cases ys with
    | nil => simp only [toPs, PyData.eqvAll, beqDs]
    | cons y ys =>
      simp only [intTs, Bool.and_eq_true] at hx hy
      simp only [toPs, PyData.eqvAll, beqDs, eqv_b hx.1 hy.1, eqvs_b hx.2 hy.2]
end
theorem eqX_t (m : Bool) {x y : D} (s) (hx : intT x = true) (hy : intT y = true) (fx : flatS 32 x = true) (fy : flatS 32 y = true) : eqX m (.d x) (.d y) s = .ok (.d (.bl (if m then !beqD x y else beqD x y))) s := by
  unfold eqX eqView
  dsimp only
  rw [if_pos (by rw [fx, fy]; rfl), eqv_b hx hy]
  rfl
/-! ### a loop that looks for something -/
theorem forF_find {asg : Xv → Env' → Option Env'} {b : FS} {v : Xv} (I : Env' → Sto → Prop) (bad : D → Bool) : ∀ (xs : List D) {ρ : Env'} {s : Sto}, I ρ s → (∀ x ∈ xs, ∀ ρ s, I ρ s → ∃ r, asg (.d x) ρ = some r ∧ (bad x = true → ∃ s', b r s = .rt v s' ∧ I ρ s') ∧ (bad x = false → ∃ r' s', b r s = .nx r' s' ∧ I r' s')) →
    (xs.any bad = true → ∃ ρ' s', forF asg b xs ρ s = .rt v s' ∧ I ρ' s') ∧ (xs.any bad = false → ∃ ρ' s', forF asg b xs ρ s = .nx ρ' s' ∧ I ρ' s')
  | [], ρ, s, h0, _ => ⟨fun h => (Bool.false_ne_true h).elim, fun _ => ⟨ρ, s, rfl, h0⟩⟩
  | x :: xs, ρ, s, h0, hs => by
    obtain ⟨r, e1, e2, e3⟩ := hs x (List.mem_cons_self ..) ρ s h0
    cases hb : bad x with
    | true =>
      obtain ⟨s', e4, e5⟩ := e2 hb
      refine ⟨fun _ => ⟨ρ, s', ?_, e5⟩, fun h => ?_⟩
      · unfold forF
        rw [e1]
        dsimp only
        rw [e4]
      · rw [List.any_cons, hb] at h
        cases h
    | false =>
      obtain ⟨r', s', e4, e5⟩ := e3 hb
      obtain ⟨k1, k2⟩ := forF_find I bad xs e5 (fun y hy => hs y (List.mem_cons_of_mem _ hy))
      have e6 : forF asg b (x :: xs) ρ s = forF asg b xs r' s' := forF_cons e1 e4
      rw [List.any_cons, hb, Bool.false_or, e6]
      exact ⟨k1, k2⟩
end FL

set_option Elab.async false
set_option linter.all false
set_option maxRecDepth 100000
set_option maxHeartbeats 1000000
namespace FL
open PySem PySem.Spec PyProof.Rows L2
/-! ### texts -/
section
variable {T : Tx} {X : Cx} {W : WX}
/-- a.m(b) of two texts -/
def strM (op : Str → Str → Option D) (f : FE) (g : FA) : FE := fun ρ s => (f ρ s).bind fun x s1 => match x with
  | .d (.str a) => (g ρ s1).bind fun ys s2 => match ys with
    | [.d (.str b)] => match op a b with
      | some d => .ok (.d d) s2
      | none => .stuck
    | _ => .stuck
  | _ => .stuck
def opStrip (a b : Str) : Option D := if a.length ≤ 1000000 then some (.str (Txt.stripChars a b)) else none
def opCount (a b : Str) : Option D := some (.int (Txt.count a b))
theorem strM_ok {op : Str → Str → Option D} {f : FE} {g : FA} {r : V → List V → Hp → VK → Prop} (h : ∀ a b d H (Q : VK), op a b = some d → (∀ v, (∀ G, R T G d v) → Q v H) → r (.str a) [.str b] H Q) {st : L2.St} {H : Hp} {Q : VK} (k : rdE T W (strM op f g) st H Q) :
    tBM X.K "str" r (rdE T W f) (rdA T W g) st H Q := by
  obtain ⟨w, ρ, s, e0, q, p⟩ := k
  refine rdE_mono (postE_bind e0 q p) fun u H1 ⟨w1, x, s1, l1, e1, x1, r1, p1⟩ => ?_
  split at p1
  · rename_i a
    cases X_str x1
    refine ⟨rfl, rdA_mono (postE_bindL e1 r1 p1) fun us H2 ⟨w2, ys, s2, l2, e2, x2, r2, p2⟩ => ?_⟩
    split at p2
    · rename_i b
      split at p2
      · rename_i d hd
        obtain ⟨v, rfl, x3⟩ := rxs1 x2
        cases X_str x3
        exact h a b d H2 Q hd fun v hv => postE_ok p2 (hv _) r2
      · exact p2.elim
    · exact p2.elim
  · exact p1.elim
theorem pf_strip {o e : Expr} {f : FE} {g : FA} {apos cpos : Pos} (ho : PF T X W o f) (ha : PFA T X W [e] g) (hb : attributeBase o "strip" X.env (eval o X.env) = eval o X.env := by rfl)
    (h1 : ((((backTo cpos (starEach [e] X.env)).all fun x => !x.fst) && (backToKw cpos (keywordEach [] X.env)).all fun x => x.fst.isSome) && decide (([e].length + ([] : List Keyword).length + if ([] : List Keyword).isEmpty = true then 0 else 1) < 30)) = true := by rfl) (h2 : (apos.endLine == cpos.line) = true := by rfl)
    (h3 : starEach [e] X.env = (false, eval e X.env) :: starEach [] X.env := by rfl) (h4 : (backTo cpos (starEach [] X.env)).any (·.1) = false := by rfl) : PF T X W (.Call (.Attribute o "strip" apos) [e] [] cpos) (strM opStrip f g) :=
  PE.imp (pe_bm PySem.F.plainAttrs_str PySem.F.slot_str_strip PySem.F.type_str_strip mt_stripChars ho ha hb h1 h2 h3 h4) fun st H Q => strM_ok fun a b d H Q hd q => by
    unfold opStrip at hd
    split at hd
    · rename_i hl
      cases hd
      exact ⟨a, b, rfl, rfl, by rw [sizeLine_eq]; omega, q _ fun G => by unfold R; rfl⟩
    · cases hd
theorem pf_count {o e : Expr} {f : FE} {g : FA} {apos cpos : Pos} (ho : PF T X W o f) (ha : PFA T X W [e] g) (hb : attributeBase o "count" X.env (eval o X.env) = eval o X.env := by rfl)
    (h1 : ((((backTo cpos (starEach [e] X.env)).all fun x => !x.fst) && (backToKw cpos (keywordEach [] X.env)).all fun x => x.fst.isSome) && decide (([e].length + ([] : List Keyword).length + if ([] : List Keyword).isEmpty = true then 0 else 1) < 30)) = true := by rfl) (h2 : (apos.endLine == cpos.line) = true := by rfl)
    (h3 : starEach [e] X.env = (false, eval e X.env) :: starEach [] X.env := by rfl) (h4 : (backTo cpos (starEach [] X.env)).any (·.1) = false := by rfl) : PF T X W (.Call (.Attribute o "count" apos) [e] [] cpos) (strM opCount f g) :=
  PE.imp (pe_bm PySem.F.plainAttrs_str PySem.F.slot_str_count PySem.F.type_str_count mt_count ho ha hb h1 h2 h3 h4) fun st H Q => strM_ok fun a b d H Q hd q => by
    cases hd
    exact ⟨a, b, rfl, rfl, q _ fun G => by unfold R; rfl⟩
/-! ### sep.join(texts) -/
def allStr : List D → Option (List Str)
  | [] => some []
  | .str x :: xs => (allStr xs).map (x :: ·)
  | _ => none
theorem allStr_ok {G : Hp} : ∀ {xs : List D} {ys : List Str} {vs : List V}, allStr xs = some ys → Rs T G xs vs → vs = ys.map V.str
  | [], ys, vs, h, e => by
    cases h
    unfold Rs at e
    exact e
  | x :: xs, ys, vs, h, e => by
    cases x <;> try (cases h; done)
    rename_i z
    have h' : (allStr xs).map (z :: ·) = some ys := h
    cases q : allStr xs with
    | none => rw [q] at h'; cases h'
    | some zs =>
      rw [q] at h'
      cases h'
      unfold Rs at e
      obtain ⟨v, r, e1, e2, e3⟩ := e
      subst e1
      cases R_str e2
      rw [allStr_ok q e3]
      rfl
def joinF (f : FE) (g : FE) : FE := fun ρ s => (f ρ s).bind fun x s1 => match x with
  | .d (.str a) => (g ρ s1).bind fun y s2 => match y with
    | .d (.lst xs) => match allStr xs with
      | some ys => if (ys.map (·.length)).sum + ys.length * a.length ≤ 16777216 then .ok (.d (.str (Txt.join a ys))) s2 else .stuck
      | none => .stuck
    | _ => .stuck
  | _ => .stuck
theorem pf_join {o e : Expr} {f g : FE} {apos pos : Pos} (hK : X.K = T.K) (ho : PF T X W o f) (he : PF T X W e g) (hs : starEach [e] X.env = [(false, eval e X.env)] := by rfl) (hbase : attributeBase o "join" X.env (eval o X.env) = eval o X.env := by rfl) (hline : (apos.endLine == pos.line) = true := by rfl) :
    PF T X W (.Call (.Attribute o "join" apos) [e] [] pos) (joinF f g) :=
  PE.imp (pe_join ho he hs hbase hline) fun st H Q ⟨w, ρ, s, e0, q, p⟩ => by
    refine rdE_mono (postE_bind e0 q p) fun u H1 ⟨w1, x, s1, l1, e1, x1, r1, p1⟩ => ?_
    split at p1
    · rename_i a
      cases X_str x1
      refine ⟨⟨a, rfl⟩, rdE_mono (postE_bind e1 r1 p1) fun u2 H2 ⟨w2, y, s2, l2, e2, x2, r2, p2⟩ => ?_⟩
      split at p2
      · rename_i xs
        split at p2
        · rename_i ys hy
          split at p2
          · rename_i hl
            have x2' : R T w2.G (.lst xs) u2 := x2
            unfold R at x2'
            obtain ⟨b, vs, k1, k2, k3⟩ := x2'
            subst k1
            have k4 := allStr_ok hy k3
            subst k4
            exact ⟨a, b, ys, rfl, rfl, .inl (by rw [hK]; exact .of (r2.g _ _ k2)), hl, postE_ok p2 rX_str r2⟩
          · exact p2.elim
        · exact p2.elim
      · exact p2.elim
    · exact p1.elim
/-! ### xs.pop() -/
def popF (f : FE) : FE := fun ρ s => (f ρ s).bind fun x s1 => match x with
  | .ref i => match s1[i]? with
    | some (.lst xs) => match xs[xs.length - 1]? with
      | some y => .ok (.d y) (s1.set i (.lst xs.dropLast))
      | none => .stuck
    | _ => .stuck
  | _ => .stuck
theorem Rs.dropLast {G : Hp} {xs : List D} {vs : List V} (h : Rs T G xs vs) : Rs T G xs.dropLast vs.dropLast := by
  rw [List.dropLast_eq_take, List.dropLast_eq_take, h.length]
  exact h.take _
theorem pf_pop {o : Expr} {f : FE} {apos cpos : Pos} (hK : X.K = T.K) (ho : PF T X W o f) (hbase : attributeBase o "pop" X.env (eval o X.env) = eval o X.env := by rfl) (hline : (apos.endLine == cpos.line) = true := by rfl) : PF T X W (.Call (.Attribute o "pop" apos) [] [] cpos) (popF f) :=
  PE.imp (pe_bm0 PySem.F.plainAttrs_list PySem.F.slot_list_pop PySem.F.type_list_pop mt_pop ho hbase hline) fun st H Q ⟨w, ρ, s, e0, q, p⟩ => rdE_mono (postE_bind e0 q p) fun u H1 ⟨w1, x, s1, l1, e1, x1, r1, p1⟩ => by
    split at p1
    · rename_i i
      split at p1
      · rename_i xs hs
        split at p1
        · rename_i y hy
          obtain ⟨a, k1, k2⟩ := x1
          subst k2
          obtain ⟨ho, m1, ⟨vs, m2, m3⟩, m4, m5⟩ := r1.live i _ a hs (by simp) k1
          subst m2
          obtain ⟨v, n1, n2⟩ := Rs.get m3 hy
          rw [m3.length] at n1
          exact ⟨.inl ⟨rfl, vs, .of m1⟩, a, vs, v, rfl, rfl, m1, n1, postE_ok p1 n2 (r1.write hs (by simp) k1 ⟨_, rfl, m3.dropLast⟩)⟩
        · exact p1.elim
      · exact p1.elim
    · exact p1.elim
/-! ### s[::-1] -/
def revS (z : Str) : Str := ⟨z.cps.toList.reverse.toArray⟩
theorem krv_text (z : Str) : ((Builtin.Str.strSliceIndices none none (-1) z.length).filterMap (z.cps[·]?)).toArray = z.cps.toList.reverse.toArray := by
  have e : Builtin.Str.strSliceIndices none none (-1) z.length = (List.range z.cps.size).reverse := by
    show sliceRange ((z.cps.size : Int) - 1) (-1) (-1) = _
    rw [PySem.W.krv_sliceRange, PySem.W.krv_range]
  rw [e, List.filterMap_reverse]
  congr 2
  apply List.ext_getElem?
  intro i
  have h : (List.range z.cps.size).filterMap (fun j => z.cps[j]?) = z.cps.toList := PySem.W.krv_all z.cps
  rw [h]
def revF (f : FE) : FE := fun ρ s => (f ρ s).bind fun x s1 => match x with
  | .d (.str z) => if z.length ≤ 1000000 then .ok (.d (.str (revS z))) s1 else .stuck
  | _ => .stuck
end
end FL

set_option Elab.async false
set_option linter.all false
set_option maxRecDepth 100000
set_option maxHeartbeats 1000000
namespace FL
open PySem PySem.Spec PyProof.Rows L2
section
variable {T : Tx} {X : Cx} {W : WX}
theorem pe_revS {e : Expr} {te : TE} {k : Nat} {p1 p2 p3 pos : Pos} (he : PE X e te) : PE X (.Subscript e (.Slice none none (some (.UnaryOp .USub (.Constant (.int 1) k p1) p2)) p3) pos) (fun σ H Q => te σ H fun x H1 => ∃ z, x = .str z ∧ z.length ≤ sizeLine ∧ Q (.str (revS z)) H1) := by
  refine ⟨fun pins s σ H Q I h => ?_⟩
  refine Subscript_ (thn (he.run pins s σ H _ I h) fun v s1 ⟨x, H1, I1, r1, q1⟩ => ?_)
  obtain ⟨z, ex, hz, q⟩ := q1
  subst ex
  obtain ⟨t, rfl⟩ := r1
  have hst : PO X (some (.UnaryOp .USub (.Constant (.int 1) k p1) p2)) (tPart (tUn (rU fun i => .int (-i)) (tC (.int 1)))) := po_some (pe_un un_neg pe_int)
  refine wpAny_Slice (thn (po_none.run pins s1 σ H1 (fun o H2 => o = none ∧ H2 = H1) I1 ⟨rfl, rfl⟩) fun vl s2 ⟨l, H2, I2, pl, el, e2⟩ => ?_)
  subst el e2
  refine thn (po_none.run pins s2 σ H2 (fun o H3 => o = none ∧ H3 = H2) I2 ⟨rfl, rfl⟩) fun vu s3 ⟨u, H3, I3, pu, eu, e3⟩ => ?_
  subst eu e3
  refine thn (hst.run pins s3 σ H3 (fun o H4 => o = some (-1) ∧ H4 = H3) I3 ⟨1, rfl, -1, rfl, rfl, rfl⟩) fun vs s4 ⟨o, H4, I4, ps, eo, e4⟩ => ?_
  subst eo e4
  have I5 : Inv X pins σ H4 { s4 with heap := s4.heap.push { cls := .type "slice", data := .fields #[vl, vu, vs] } } := I4.kept (t' := s4.toks) fun b ob q => Heap.get?_push_of_some _ q
  obtain ⟨l', rfl, hl'⟩ := IsPart.raw pl
  obtain ⟨u', rfl, hu'⟩ := IsPart.raw pu
  obtain ⟨s', rfl, hs'⟩ := IsPart.raw ps
  show wpAny (model X.prog X.w) X.A (subscriptTail e (.Slice none none (some (.UnaryOp .USub (.Constant (.int 1) k p1) p2)) p3) (.str z t) (.ref s4.heap.objs.size)) (EP X pins σ Q) X.xe _
  refine tail_any (ops := [.str z t, .ref s4.heap.objs.size]) (typeIs_str _ z t) (PySem.F.slot_str_getitem.lookup) ?_ (by with_unfolding_all rfl)
  refine wpAny_getItem_str_slice (l := l') (u := u') (st := s') ⟨_, Heap.get?_push_size _ rfl, rfl, rfl⟩ (by rw [hs']; rfl) ?_
  have hm : sliceMade z t l' u' s' = .str (revS z) := by
    unfold sliceMade
    rw [show ((s'.map (·.1)).getD 1 == 1) = false by rw [hs']; rfl, Bool.false_and, if_neg Bool.false_ne_true]
    show Made.str ⟨((Builtin.Str.strSliceIndices (l'.map (·.1)) (u'.map (·.1)) ((s'.map (·.1)).getD 1) z.length).filterMap (z.cps[·]?)).toArray⟩ = _
    rw [hl', hu', hs']
    show Made.str ⟨((Builtin.Str.strSliceIndices none none (-1) z.length).filterMap (z.cps[·]?)).toArray⟩ = _
    rw [krv_text]
    rfl
  rw [hm]
  refine ⟨?_, .str _, H4, I5.tok _, ⟨_, rfl⟩, q⟩
  show (z.cps.toList.reverse.toArray).size ≤ sizeLine
  rw [List.size_toArray, List.length_reverse, Array.length_toList]
  exact hz
theorem pf_rev {e : Expr} {f : FE} {k : Nat} {p1 p2 p3 pos : Pos} (he : PF T X W e f) : PF T X W (.Subscript e (.Slice none none (some (.UnaryOp .USub (.Constant (.int 1) k p1) p2)) p3) pos) (revF f) :=
  PE.imp (pe_revS he) fun st H Q ⟨w, ρ, s, e0, q, p⟩ => rdE_mono (postE_bind e0 q p) fun u H1 ⟨w1, x, s1, l1, e1, x1, r1, p1⟩ => by
    split at p1
    · rename_i z
      split at p1
      · rename_i hz
        cases X_str x1
        exact ⟨z, rfl, by rw [sizeLine_eq]; omega, postE_ok p1 rX_str r1⟩
      · exact p1.elim
    · exact p1.elim
/-! ### s * n -/
def repS (z : Str) (k : Int) : Str := ⟨(List.replicate k.toNat z.cps.toList).flatten.toArray⟩
theorem foldl_app {α : Type} : ∀ (l : List (Array α)) (a : Array α), l.foldl (· ++ ·) a = (a.toList ++ (l.map Array.toList).flatten).toArray
  | [], a => by simp
  | x :: l, a => by
    rw [List.foldl_cons, foldl_app l (a ++ x)]
    simp
def rRepS : R2 := fun x y H Q => ∃ z k, x = .str z ∧ y = .int k ∧ -1000000000 ≤ k ∧ k ≤ 1000000000 ∧ z.length * k.toNat ≤ 1000000 ∧ Q (.str (repS z k)) H
theorem op_repS : OpR X (binaryOp .Mult) rRepS := by
  intro pins s σ H x y u v Q I rx ry h
  obtain ⟨z, k, rfl, rfl, h1, h2, h3, q⟩ := h
  obtain ⟨t, rfl⟩ := rx
  obtain ⟨t2, rfl⟩ := ry
  have big : ∀ m : Nat, m ≤ 1000000 → Builtin.Str.tooLong m = false := fun m hm => by
    unfold Builtin.Str.tooLong
    rw [sizeLine_eq]
    simp
    omega
  show wpAny (model X.prog X.w) X.A (binaryOp .Mult (.str z t) (.int k t2)) (EP X pins σ Q) X.xe s
  refine PySem.P.mul_str ?_ (fun hk _ => ?_) (fun _ _ => big _ h3) ?_
  · rw [decide_eq_false (by omega), decide_eq_false (by omega)]
    rfl
  · have hp : (0 : Int) < k := by omega
    have e : (z.length : Int) * k ≤ 1000000 := by
      have : ((z.length * k.toNat : Nat) : Int) = (z.length : Int) * k := by
        rw [Int.natCast_mul]
        congr 1
        omega
      omega
    have h4 : (z.length : Int) ≤ (2 ^ 63 - 1) / k := (Int.le_ediv_iff_mul_le hp).mpr (by omega)
    omega
  · by_cases hk : k < 1
    · rw [if_pos hk]
      have e : repS z k = Str.empty := by
        unfold repS
        rw [show k.toNat = 0 by omega]
        rfl
      rw [e] at q
      exact ⟨by rw [sizeLine_eq]; decide, .str _, H, I.tok _, ⟨_, rfl⟩, q⟩
    · rw [if_neg hk]
      by_cases hc : (k == 1 || z.length == 0) = true
      · rw [if_pos hc]
        have e : repS z k = z := by
          obtain ⟨a⟩ := z
          unfold repS
          rcases Bool.or_eq_true_iff.mp hc with h | h
          · have : k = 1 := by simpa using h
            subst this
            simp
          · have : a = #[] := by
              have h' : a.size = 0 := by simpa [Str.length] using h
              exact Array.size_eq_zero_iff.mp h'
            subst this
            simp
        rw [e] at q
        exact ⟨.str z, H, I, ⟨t, rfl⟩, q⟩
      · rw [if_neg hc]
        have e : (⟨(List.replicate k.toNat z.cps).foldl (· ++ ·) #[]⟩ : Str) = repS z k := by
          unfold repS
          rw [foldl_app]
          simp [List.map_replicate]
        rw [e]
        refine ⟨?_, .str _, H, I.tok _, ⟨_, rfl⟩, q⟩
        have : (repS z k).length = z.length * k.toNat := by
          unfold repS Str.length
          simp [Nat.mul_comm]
        rw [this, sizeLine_eq]
        omega
def mulTX (m : Bool) (x y : Xv) (s : Sto) : Res := match x, y with
  | .d (.str z), .d (.int k) => if -1000000000 ≤ k ∧ k ≤ 1000000000 ∧ z.length * k.toNat ≤ 1000000 then .ok (.d (.str (repS z k))) s else .stuck
  | x, y => mulX m x y s
theorem mulT_ok {m : Bool} : Op2 T W (fun x y H Q => rRepS x y H Q ∨ (rMulI x y H Q ∨ rRepA T.K x y H Q ∨ rRep x y H Q)) (mulTX m) := by
  intro st w x y u v s H Q hx hy r p
  unfold mulTX at p
  split at p
  · rename_i z k
    split at p
    · rename_i hc
      cases X_str hx
      cases X_int hy
      exact .inl ⟨z, k, rfl, rfl, hc.1, hc.2.1, hc.2.2, postE_ok p rX_str r⟩
    · exact p.elim
  · exact .inr (mul_ok st w x y u v s H Q hx hy r p)
theorem pf_mulT {a b : Expr} {f g : FE} {pos : Pos} (m : Bool) (hK : X.K = T.K) (ha : PF T X W a f) (hb : PF T X W b g) : PF T X W (.BinOp a .Mult b pos) (op2F (mulTX m) f g) :=
  pf_op (r := fun x y H Q => rRepS x y H Q ∨ (rMulI x y H Q ∨ rRepA T.K x y H Q ∨ rRep x y H Q)) (hK ▸ op_repS.or op_mulAll) mulT_ok ha hb
/-! ### for c in a text -/
abbrev chD (z : Str) : List D := z.cps.toList.map fun c => .str ⟨#[c]⟩
theorem wk_str {G : Hp} (z : Str) : Wk T G (Its z) (chD z) := by
  refine ⟨fun i x w s H hi g r => ?_, fun w s H g r => ?_⟩
  · rw [List.getElem?_map] at hi
    cases q : z.cps.toList[i]? with
    | none => rw [q] at hi; cases hi
    | some c =>
      rw [q] at hi
      cases hi
      have hl := (List.getElem?_eq_some_iff.mp q).1
      rw [Array.length_toList] at hl
      refine ⟨hl, ?_⟩
      rintro v H' ⟨rfl, c', hc, rfl⟩
      rw [← Array.getElem?_toList, q] at hc
      cases hc
      exact ⟨w, .refl _, rX_str, r⟩
  · show z.cps.size ≤ (chD z).length
    rw [List.length_map, Array.length_toList]
    exact Nat.le_refl _
def iterTF (f : FE) : FE := fun ρ s => (f ρ s).bind fun x s1 => match x with
  | .d (.str z) => .ok (.d (.lst (chD z))) s1
  | _ => .stuck
theorem pfi_str {tg e : Expr} {f : FE} (h : PF T X W e f) : PFI T X W tg e (iterTF f) := PI.imp (pi_str h) fun st H Q ⟨w, ρ, s, e, q, p⟩ => rdE_mono (postI_bind e q p) fun u H1 ⟨w1, x, s1, l1, e1, x1, r1, p1⟩ => by
  split at p1
  · rename_i z
    cases X_str x1
    exact ⟨z, rfl, p1 w1 _ H1 (.refl _) (wk_str z) r1⟩
  · exact p1.elim
end
end FL

set_option Elab.async false
set_option linter.all false
set_option maxRecDepth 100000
set_option maxHeartbeats 1000000
namespace FL
open PySem PySem.Spec PyProof.Rows L2
/-! ### a call whose changing lists are as plain data while it runs: what it answers is a number, a text, a truth value or None -/
def atomD : D → Bool
  | .non => true
  | .bl _ => true
  | .int _ => true
  | .str _ => true
  | _ => false
theorem R_atom {T : Tx} {G G' : Hp} {d : D} {v : V} (h : atomD d = true) (r : R T G d v) : R T G' d v := by
  cases d <;> first | (cases h; done) | (unfold R at r ⊢; exact r)
theorem Rs_atom {T : Tx} {G G' : Hp} : ∀ {ds : List D} {vs : List V}, ds.all atomD = true → Rs T G ds vs → Rs T G' ds vs
  | [], vs, _, r => by unfold Rs at r ⊢; exact r
  | d :: ds, vs, h, r => by
    rw [List.all_cons, Bool.and_eq_true] at h
    unfold Rs at r ⊢
    obtain ⟨v, u, e1, e2, e3⟩ := r
    exact ⟨v, u, e1, R_atom h.1 e2, Rs_atom h.2 e3⟩
def frzX (kp : Option Nat) (s : Sto) : Xv → Option Xv
  | .d d => some (.d d)
  | .ref j => if some j = kp then some (.ref 0) else match s[j]? with
    | some (.lst xs) => some (.d (.lst xs))
    | _ => none
def frzL (kp : Option Nat) (s : Sto) : List Xv → Option (List Xv)
  | [] => some []
  | x :: xs => match frzX kp s x with
    | some y => (frzL kp s xs).map (y :: ·)
    | none => none
def stoK (kp : Option Nat) (s : Sto) : Option Sto := match kp with
  | none => some []
  | some i => match s[i]? with
    | some (.lst o) => some [.lst o]
    | _ => none
def backK (kp : Option Nat) (s s2 : Sto) : Option Sto := match kp with
  | none => some s
  | some i => match s2[(0 : Nat)]? with
    | some (O.lst o2) => if o2.all atomD = true then some (s.set i (.lst o2)) else none
    | _ => none
def runP (kp : Option Nat) (F : Fn) (xs : List Xv) (s : Sto) : Res := match frzL kp s xs, stoK kp s with
  | some ys, some s0 => match F ys s0 with
    | .ok (.d v) s2 => match backK kp s s2 with
      | some s' => if atomD v = true then .ok (.d v) s' else .stuck
      | none => .stuck
    | _ => .stuck
  | _, _ => .stuck
def keptOf (keep : Bool) (xs : List Xv) : Option Nat := match keep, xs with
  | true, .ref i :: _ => some i
  | _, _ => none
def callPF (keep : Bool) (F : Fn) (dv : List D) (g : FA) : FE := fun ρ s => (g ρ s).bind fun xs s1 => runP (keptOf keep xs) F (xs ++ dv.map .d) s1
theorem frzL_len {kp : Option Nat} {s : Sto} : ∀ {xs ys : List Xv}, frzL kp s xs = some ys → ys.length = xs.length
  | [], ys, h => by cases h; rfl
  | x :: xs, ys, h => by
    unfold frzL at h
    split at h
    · rename_i y hy
      cases q : frzL kp s xs with
      | none => rw [q] at h; cases h
      | some zs =>
        rw [q] at h
        cases h
        simp [frzL_len q]
    · cases h
section
variable {T : Tx} {X : Cx} {W : WX}
open Classical in
/-- the lists that live, but for the kept one, as plain data -/
noncomputable def frG (w : Wd) (s : Sto) (H : Hp) (kp : Option Nat) : Hp := fun a => match w.G a with
  | some o => some o
  | none => if ∃ j o, s[j]? = some (O.lst o) ∧ w.io[j]? = some a ∧ some j ≠ kp then H a else none
open Classical in
noncomputable def frZ (w : Wd) (s : Sto) (H : Hp) (kp : Option Nat) : Hp := fun a => if (frG w s H kp a).isSome = true ∨ (∃ i, kp = some i ∧ w.io[i]? = some a) then none else H a
theorem frG_same {w : Wd} {s : Sto} {H : Hp} {kp : Option Nat} : Same w.G (frG w s H kp) := fun a o h => by
  unfold frG
  rw [h]
theorem frG_H {w : Wd} {s : Sto} {H : Hp} {kp : Option Nat} (r : RS T w s H) : Same (frG w s H kp) H := fun a o h => by
  unfold frG at h
  split at h
  · rename_i o' ho
    cases h
    exact r.g _ _ ho
  · split at h
    · exact h
    · cases h
theorem frZ_H {w : Wd} {s : Sto} {H : Hp} {kp : Option Nat} : Same (frZ w s H kp) H := fun a o h => by
  unfold frZ at h
  split at h
  · cases h
  · exact h
theorem frZ_gz {w : Wd} {s : Sto} {H : Hp} {kp : Option Nat} {a : Addr} {o : HO} (h : frZ w s H kp a = some o) : frG w s H kp a = none := by
  unfold frZ at h
  split at h
  · cases h
  · rename_i hn
    cases q : frG w s H kp a with
    | none => rfl
    | some u => exact (hn (.inl (by rw [q]; rfl))).elim
/-- all that stood stands, but the kept list -/
theorem fr_keep {w w' : Wd} {s s' : Sto} {H H' : Hp} {kp : Option Nat} (hG : Same (frG w s H kp) w'.G) (hZ : w'.Z = frZ w s H kp) (r' : RS T w' s' H') {a : Addr} {o : HO} (h : H a = some o) (hk : ∀ i, kp = some i → w.io[i]? ≠ some a) (hg : Same (frG w s H kp) H) : H' a = some o := by
  cases q : frG w s H kp a with
  | some u =>
    have e := hg _ _ q
    rw [h] at e
    cases e
    exact r'.g _ _ (hG _ _ q)
  | none =>
    refine r'.z _ _ ?_
    rw [hZ]
    unfold frZ
    rw [if_neg]
    · exact h
    · rintro (z | ⟨i, z1, z2⟩)
      · rw [q] at z
        cases z
      · exact hk i z1 z2
theorem frz_arg {w : Wd} {s : Sto} {H : Hp} {kp : Option Nat} {io : List Addr} {Z : Hp} (r : RS T w s H) (hio : ∀ i, kp = some i → io[0]? = w.io[i]?) {x y : Xv} {v : V} (h : frzX kp s x = some y) (e : RX T w x v) : RX T ⟨frG w s H kp, Z, io⟩ y v := by
  cases x with
  | d d =>
    have h' : some (Xv.d d) = some y := h
    cases h'
    exact R.mono frG_same e
  | ref j =>
    obtain ⟨a, e1, e2⟩ := e
    have h' : (if some j = kp then some (Xv.ref 0) else match s[j]? with
      | some (.lst xs) => some (Xv.d (.lst xs))
      | _ => none) = some y := h
    by_cases hk : some j = kp
    · rw [if_pos hk] at h'
      cases h'
      exact ⟨a, by show io[0]? = some a; rw [hio j hk.symm]; exact e1, e2⟩
    · rw [if_neg hk] at h'
      split at h'
      · rename_i xs hs
        cases h'
        obtain ⟨ho, k1, ⟨vs, k2, k3⟩, k4, k5⟩ := r.live j _ a hs (fun z => nomatch z) e1
        subst k2
        show R T (frG w s H kp) (.lst xs) v
        unfold R
        refine ⟨a, vs, e2, ?_, Rs.mono frG_same k3⟩
        unfold frG
        rw [k4]
        dsimp only
        rw [if_pos ⟨j, xs, hs, e1, hk⟩, k1]
      · cases h'
theorem frz_args {w : Wd} {s : Sto} {H : Hp} {kp : Option Nat} {io : List Addr} {Z : Hp} (r : RS T w s H) (hio : ∀ i, kp = some i → io[0]? = w.io[i]?) : ∀ {xs ys : List Xv} {vs : List V}, frzL kp s xs = some ys → RXs T w xs vs → RXs T ⟨frG w s H kp, Z, io⟩ ys vs
  | [], ys, vs, h, e => by
    cases h
    exact e
  | x :: xs, ys, vs, h, ⟨v, u, e1, e2, e3⟩ => by
    unfold frzL at h
    split at h
    · rename_i y hy
      cases q : frzL kp s xs with
      | none => rw [q] at h; cases h
      | some zs =>
        rw [q] at h
        cases h
        exact ⟨v, u, e1, frz_arg r hio hy e2, frz_args r hio q e3⟩
    · cases h
theorem runP_ok {st : L2.St} {w : Wd} {kp : Option Nat} {F : Fn} {xs : List Xv} {vs : List V} {s : Sto} {H : Hp} {Q : VK} {n : Nat} (hn : xs.length = n) (x : RXs T w xs vs) (r : RS T w s H) (p : PostE T W st w (runP kp F xs s) Q) : spF T n F vs H Q (WE W st) := by
  unfold runP at p
  split at p
  · rename_i ys s0 hy h0
    cases kp with
    | none =>
      cases h0
      refine ⟨⟨frG w s H none, frZ w s H none, []⟩, ys, [], by rw [frzL_len hy]; exact hn, frz_args r (fun i z => by cases z) hy x, ⟨frG_H r, frZ_H, fun a o h => frZ_gz h, rfl, fun i o a e => by simp at e, fun i j o u a e => by simp at e⟩, ?_⟩
      split at p
      · rename_i v s2 hF
        rw [hF]
        split at p
        · rename_i s' hb
          cases hb
          split at p
          · rename_i hv
            intro w' u H' l rx r'
            have ext : Ext H H' := fun a o h => fr_keep l.g l.z r' h (fun i z => by cases z) (frG_H r)
            exact p w u H' (.refl _) (R_atom hv rx) (r.ext ext)
          · exact p.elim
        · exact p.elim
      · exact p.elim
    | some i =>
      unfold stoK at h0
      dsimp only at h0
      split at h0
      · rename_i o hs
        cases h0
        have il : i < w.io.length := by
          rw [r.len]
          exact (List.getElem?_eq_some_iff.mp hs).1
        obtain ⟨a, ea⟩ : ∃ a, w.io[i]? = some a := ⟨_, List.getElem?_eq_getElem il⟩
        obtain ⟨ho, k1, k2, k3, k4⟩ := r.live i _ a hs (fun z => nomatch z) ea
        have ga : frG w s H (some i) a = none := by
          unfold frG
          rw [k3]
          dsimp only
          rw [if_neg]
          rintro ⟨j, o', q1, q2, q3⟩
          exact q3 (congrArg some (r.inj j i _ _ a q1 (fun z => nomatch z) hs (fun z => nomatch z) q2 ea))
        have za : frZ w s H (some i) a = none := by
          unfold frZ
          rw [if_pos (.inr ⟨i, rfl, ea⟩)]
        refine ⟨⟨frG w s H (some i), frZ w s H (some i), [a]⟩, ys, [.lst o], by rw [frzL_len hy]; exact hn, frz_args r (fun j z => by cases z; exact ea.symm) hy x, ⟨frG_H r, frZ_H, fun a o h => frZ_gz h, rfl, fun j u b q1 q2 q3 => ?_, fun j k u v b q1 _ q2 _ _ _ => ?_⟩, ?_⟩
        · have hj : j = 0 := by
            have := (List.getElem?_eq_some_iff.mp q1).1
            simp at this
            exact this
          subst hj
          have q1' : O.lst o = u := by simpa using q1
          have q3' : a = b := by
            have q3'' : [a][0]? = some b := q3
            simpa using q3''
          subst q1' q3'
          exact ⟨ho, k1, RO.mono frG_same k2, ga, za⟩
        · have h1 := (List.getElem?_eq_some_iff.mp q1).1
          have h2 := (List.getElem?_eq_some_iff.mp q2).1
          simp at h1 h2
          rw [h1, h2]
        · split at p
          · rename_i v s2 hF
            rw [hF]
            split at p
            · rename_i s' hb
              unfold backK at hb
              dsimp only at hb
              split at hb
              · rename_i o2 h2
                split at hb
                · rename_i hat
                  cases hb
                  split at p
                  · rename_i hv
                    intro w' u H' l rx r'
                    have h0' : w'.io[0]? = some a := by
                      obtain ⟨t, e⟩ := l.io
                      rw [e]
                      rfl
                    obtain ⟨ho2, m1, ⟨us, m2, m3⟩, m4, m5⟩ := r'.live 0 _ a h2 (fun z => nomatch z) h0'
                    have keep : ∀ b o, b ≠ a → H b = some o → H' b = some o := fun b o hb h => fr_keep l.g l.z r' h (fun j z => by
                      cases z
                      rw [ea]
                      exact fun z => hb (Option.some.inj z).symm) (frG_H r)
                    have isz : i < s.length := (List.getElem?_eq_some_iff.mp hs).1
                    have back : ∀ (m : Nat) (v : O), (s.set i (.lst o2))[m]? = some v → v ≠ .dead → ∃ v0, s[m]? = some v0 ∧ v0 ≠ .dead := fun m v q1 q2 => by
                      by_cases hm : i = m
                      · subst hm
                        exact ⟨_, hs, fun z => nomatch z⟩
                      · rw [List.getElem?_set_ne hm] at q1
                        exact ⟨v, q1, q2⟩
                    refine p w u H' (.refl _) (R_atom hv rx) ⟨fun b o q => keep b o (fun z => by rw [z, k3] at q; cases q) (r.g _ _ q), fun b o q => keep b o (fun z => by rw [z, k4] at q; cases q) (r.z _ _ q), r.gz, by simp [r.len], fun j u b q1 q2 q3 => ?_, fun j k u v b q1 q2 q3 q4 q5 q6 => ?_⟩
                    · by_cases hj : i = j
                      · subst hj
                        rw [ea] at q3
                        cases q3
                        rw [List.getElem?_set_self isz] at q1
                        cases q1
                        exact ⟨ho2, m1, ⟨us, m2, Rs_atom hat m3⟩, k3, k4⟩
                      · rw [List.getElem?_set_ne hj] at q1
                        obtain ⟨hb, n1, n2, n3, n4⟩ := r.live j u b q1 q2 q3
                        exact ⟨hb, keep b _ (fun z => hj (r.inj i j _ u a hs (fun z => nomatch z) q1 q2 ea (by rw [← z]; exact q3))) n1, n2, n3, n4⟩
                    · obtain ⟨v0, z1, z2⟩ := back j u q1 q2
                      obtain ⟨v1, z3, z4⟩ := back k v q3 q4
                      exact r.inj j k v0 v1 b z1 z2 z3 z4 q5 q6
                  · exact p.elim
                · cases hb
              · cases hb
            · exact p.elim
          · exact p.elim
      · cases h0
  · exact p.elim
theorem pf_callP {j k : Nat} {ps : List Str} {F : Fn} {dv : List D} {x : Str} {p pos : Pos} {e : Expr} {es : List Expr} {g : FA} (keep : Bool) (Df : Def T X.prog X.w X.K X.mg X.base j x ps dv F) (C : Cn T X W k) (ha : PFA T X W (e :: es) g) (hgl : LenA g (e :: es).length) (hj : j ≤ k := by decide) (hl : (e :: es).length + dv.length = ps.length := by rfl)
    (hg : Gl X x := by rfl) (hdb : (x == ("__debug__" : Str)) = false := by decide) (he : starEach (e :: es) X.env = (false, eval e X.env) :: starEach es X.env := by rfl) (hpl : (backTo pos (starEach es X.env)).any (·.1) = false := by rfl) :
    PF T X W (.Call (.Name x p) (e :: es) [] pos) (callPF keep F dv g) := by
  obtain ⟨f, fd, dvs, ds, G, hm, hk, hb, hd, hv⟩ := Df.ex
  refine PE.imp (pe_callG (E := WE W) (G.mono hj) C.hr hg hm hk hb hd (fun σ => passAt C.tk σ) ha hdb he hpl) fun st H Q ⟨w, ρ, s, e0, q, p0⟩ => ?_
  refine ⟨w, ρ, s, e0, q, ?_⟩
  have hq := hgl ρ s
  unfold callPF at p0
  revert p0 hq
  cases g ρ s with
  | exc a b => exact fun p _ => p
  | stuck => exact fun p _ => p
  | ok xs s1 =>
    intro p0 hq w1 us H1 l x1 r1
    exact runP_ok (n := ps.length) (by rw [List.length_append, List.length_map, hq xs s1 rfl]; exact hl) (x1.append (rxs_of_rs (hv _))) r1 (PostE.mono l p0)
end
end FL

set_option Elab.async false
set_option linter.all false
set_option maxRecDepth 100000
set_option maxHeartbeats 1000000
namespace FL
open PySem PySem.Spec PyProof.Rows L2
theorem pft_chain2 {T : Tx} {X : Cx} {W : WX} {op op' : CmpOp} {r r' : R2} {o o' : Xv → Xv → Sto → Res} {a b c : Expr} {f g h : FE} {pos : Pos} (ho : OpR X (compareOp op) r) (ho' : OpR X (compareOp op') r') (h1 : Op2 T W r o) (h2 : Op2 T W r' o') (hb2 : Bl2 o') (ha : PF T X W a f) (hb : PF T X W b g) (hc : PF T X W c h)
    (hm : lastMarks [op, op'] [b, c] = false := by with_unfolding_all rfl) : PFT T X W (.Compare a [op, op'] [b, c] pos) (chainF o o' f g h) :=
  PT.imp (pt_chain ho ho' ha hb hc hm) fun st H Q k => rd_chain h1 h2 (rdT_bl (chainF_bl hb2) k)
/-! ### sum of a tuple -/
def rSumT (K : PySem.W.Frag) : RN := fun vs H Q => ∃ (a : Addr) (ns : List Int), vs = [V.ref a] ∧ SqT K H a (ns.map V.int) ∧ Q (.int ns.sum) H
theorem cr_sumT {X : Cx} (hc : X.calm = true) : CallR X (.builtin "sum") (rSumT X.K) := by
  intro pins s σ H vs us Q I r h
  obtain ⟨a, ns, rfl, hs, q⟩ := h
  obtain ⟨its, rv, ht, hz⟩ := I.tuple hs
  rw [Vals.ref1 r]
  obtain ⟨xs, hx⟩ := rv.ints.allInts.items
  have hn : numsOf its.toArray.toList = ns := by rw [show its.toArray.toList = its from rfl, rv.ints.numsOf]
  rw [hx] at ht hn
  rw [nums_intItems] at hn
  refine PySem.W.ktm_sumG (I.ok.hd hc) ht fun h' tk t' hk => ?_
  rw [preSum_eq, List.take_of_length_le (by simp), hn]
  exact ⟨.int _, H, I.kept hk, ⟨_, rfl⟩, q⟩
section
variable {T : Tx} {X : Cx} {W : WX}
def sumTX (xs : List Xv) (s : Sto) : Res := match xs with
  | [.d (.tup a)] => match allInts a with
    | some ns => okI ns.sum s
    | none => .stuck
  | xs => sumX xs s
theorem sumT_ok : OpN T W (fun xs H Q => rSumT T.K xs H Q ∨ rSum T.K xs H Q) sumTX := by
  intro st w xs vs s H Q hx r p
  unfold sumTX at p
  split at p
  · rename_i a
    split at p
    · rename_i ns hi
      obtain ⟨v, rfl, e⟩ := rxs1 hx
      have e' : R T w.G (.tup a) v := e
      unfold R at e'
      obtain ⟨b, us, e1, e2, e3⟩ := e'
      subst e1
      have e4 := allInts_ok hi e3
      subst e4
      exact .inl ⟨b, ns, rfl, sqT_mono r.g e2, okI_q p r⟩
    · exact p.elim
  · exact .inr (sum_ok st w xs vs s H Q hx r p)
theorem b_sumT {k : Nat} (C : Cn T X W k) : CallR X (.builtin "sum") (fun xs H Q => rSumT T.K xs H Q ∨ rSum T.K xs H Q) := C.hK ▸ callR_or (cr_sumT C.calm) (cr_sum C.calm)
end
end FL

set_option Elab.async false
set_option linter.all false
set_option maxRecDepth 100000
set_option maxHeartbeats 1000000
namespace FL
open PySem PySem.Spec PyProof.Rows L2
/-! ### texts as lists of numbers -/
abbrev sS (l : List Nat) : Str := ⟨l.toArray⟩
abbrev sD (l : List Nat) : D := .str (sS l)
/-- small letters -/
def Lt (l : List Nat) : Prop := ∀ c ∈ l, 97 ≤ c ∧ c ≤ 122
def pw (w : List Nat) (n : Nat) : List Nat := (List.replicate n w).flatten
theorem Lt.app {a b : List Nat} (h : Lt a) (k : Lt b) : Lt (a ++ b) := fun c hc => (List.mem_append.mp hc).elim (h c) (k c)
theorem Lt.take {a : List Nat} (h : Lt a) (n : Nat) : Lt (a.take n) := fun c hc => h c (List.mem_of_mem_take hc)
theorem Lt.drop {a : List Nat} (h : Lt a) (n : Nat) : Lt (a.drop n) := fun c hc => h c (List.mem_of_mem_drop hc)
theorem Lt.nil : Lt [] := fun c hc => nomatch hc
theorem Lt.pw {a : List Nat} (h : Lt a) (n : Nat) : Lt (pw a n) := fun c hc => by
  obtain ⟨l, h1, h2⟩ := List.mem_flatten.mp hc
  exact h c (List.eq_of_mem_replicate h1 ▸ h2)
theorem pw_len (w : List Nat) (n : Nat) : (pw w n).length = n * w.length := by
  unfold pw
  simp
theorem sS_len (l : List Nat) : (sS l).length = l.length := rfl
theorem sS_inj {a b : List Nat} (h : sS a = sS b) : a = b := by
  have := congrArg (fun z : Str => z.cps.toList) h
  simpa using this
theorem ok_sS {l : List Nat} (h : ∀ c ∈ l, c < 1114112) : flatS n (sD l) = true := by
  have e : PyData.canLay0 (.str (sS l)) = true := by
    simp only [PyData.canLay0]
    show (l.toArray.all fun c => decide (c < 0x110000)) = true
    rw [Array.all_eq_true_iff_forall_mem]
    intro c hc
    exact decide_eq_true (h c (by simpa using hc))
  cases n <;> exact e
theorem Lt.flat {n : Nat} {l : List Nat} (h : Lt l) : flatS n (sD l) = true := ok_sS fun c hc => by have := h c hc; omega
theorem flat_st {n : Nat} {z : Str} (h : ∀ c ∈ z.cps.toList, c < 1114112) : flatS n (.str z) = true := ok_sS (l := z.cps.toList) h
theorem eqX_st (m : Bool) {a b : Str} (s) (ha : flatS 32 (.str a) = true) (hb : flatS 32 (.str b) = true) : eqX m (.d (.str a)) (.d (.str b)) s = .ok (.d (.bl (if m then !decide (a = b) else decide (a = b)))) s := by
  have e : PyData.eqv (toP (.str a)) (toP (.str b)) = decide (a = b) := by
    unfold toP PyData.eqv
    by_cases h : a = b
    · subst h; simp
    · simp [h]
  unfold eqX eqView
  dsimp only
  rw [if_pos (by rw [ha, hb]; rfl), e]
  rfl
theorem eq_ss (m : Bool) {a b : List Nat} (s) (ha : Lt a) (hb : Lt b) : eqX m (.d (sD a)) (.d (sD b)) s = .ok (.d (.bl (if m then !decide (a = b) else decide (a = b)))) s := by
  rw [eqX_st m s ha.flat hb.flat]
  have : (sS a = sS b) = (a = b) := propext ⟨sS_inj, fun h => h ▸ rfl⟩
  simp only [this]
theorem lit_e : (("" : Str)) = sS [] := rfl
theorem lit_ab : (("ab" : Str)) = sS [97, 98] := by decide
theorem lit_aab : (("aab" : Str)) = sS [97, 97, 98] := by decide
theorem lit_a : (("a" : Str)) = sS [97] := by decide
theorem lit_abb : (("abb" : Str)) = sS [97, 98, 98] := by decide
theorem lit_aabab : (("aabab" : Str)) = sS [97, 97, 98, 97, 98] := by decide
theorem lit_az : (("abcdefghijklmnopqrstuvwxyz" : Str)) = sS ((List.range 26).map (· + 97)) := by decide
theorem len_s {l : List Nat} (s) (h : l.length ≤ 1000000) : lenX [.d (sD l)] s = .ok (.d (.int l.length)) s := if_pos (by rw [sizeLine_eq]; show l.length ≤ _; omega)
theorem add_ss (m : Bool) {a b : List Nat} (s) (h : a.length + b.length ≤ 1000000) : addX m (.d (sD a)) (.d (sD b)) s = .ok (.d (sD (a ++ b))) s := by
  have e : sS a ++ sS b = sS (a ++ b) := by
    apply Str.ext'
    rw [Str.cps_append]
    simp
  show (if (sS a).length + (sS b).length ≤ sizeLine then Res.ok (.d (.str (sS a ++ sS b))) s else .stuck) = _
  rw [if_pos (by rw [sizeLine_eq]; show a.length + b.length ≤ _; omega), e]
theorem ix_s {l : List Nat} {j c : Nat} (s) (h : l[j]? = some c) (hl : l.length ≤ 1000000) : ixX (.d (sD l)) (.d (.int (j : Int))) s = .ok (.d (sD [c])) s := by
  show (if (sS l).length ≤ sizeLine then match atI (sS l).cps.toList (j : Int) with | some c => Res.ok (.d (.str ⟨#[c]⟩)) s | none => .stuck else .stuck) = _
  rw [if_pos (by rw [sizeLine_eq]; show l.length ≤ _; omega), show (sS l).cps.toList = l from rfl, at_nat h]
theorem cutS_lo {l : List Nat} {j : Nat} (h : j ≤ l.length) : cutS (sS l) none (some (j : Int)) = sS (l.take j) := by
  have := cut_lo h
  unfold cutD at this
  unfold cutS
  show (⟨(List.take _ (List.drop _ l)).toArray⟩ : Str) = _
  rw [sS_len]
  rw [this]
theorem cutS_hi {l : List Nat} {j : Nat} (h : j ≤ l.length) : cutS (sS l) (some (j : Int)) none = sS (l.drop j) := by
  have := cut_hi h
  unfold cutD at this
  unfold cutS
  show (⟨(List.take _ (List.drop _ l)).toArray⟩ : Str) = _
  rw [sS_len]
  rw [this]
theorem sl_s_lo {l : List Nat} {j : Nat} (m s) (h : j ≤ l.length) (hl : l.length ≤ 1000000) : slX m (.d (sD l)) (.d .non) (.d (.int (j : Int))) s = .ok (.d (sD (l.take j))) s := by
  show (if (sS l).length ≤ sizeLine then Res.ok (.d (.str (cutS (sS l) none (some (j : Int))))) s else .stuck) = _
  rw [if_pos (by rw [sizeLine_eq]; show l.length ≤ _; omega), cutS_lo h]
theorem sl_s_hi {l : List Nat} {j : Nat} (m s) (h : j ≤ l.length) (hl : l.length ≤ 1000000) : slX m (.d (sD l)) (.d (.int (j : Int))) (.d .non) s = .ok (.d (sD (l.drop j))) s := by
  show (if (sS l).length ≤ sizeLine then Res.ok (.d (.str (cutS (sS l) (some (j : Int)) none))) s else .stuck) = _
  rw [if_pos (by rw [sizeLine_eq]; show l.length ≤ _; omega), cutS_hi h]
@[simp] theorem e_revF (f ρ s) : revF f ρ s = (f ρ s).bind fun x s1 => match x with
  | .d (.str z) => if z.length ≤ 1000000 then .ok (.d (.str (revS z))) s1 else .stuck
  | _ => .stuck := nr rfl
theorem rev_ss (l : List Nat) : revS (sS l) = sS l.reverse := rfl
theorem repS_s (l : List Nat) (k : Int) : repS (sS l) k = sS (pw l k.toNat) := rfl
theorem mulT_s (m : Bool) {l : List Nat} {k : Int} (s) (h1 : 0 ≤ k) (h2 : k ≤ 1000000) (h3 : k.toNat * l.length ≤ 1000000) : mulTX m (.d (sD l)) (.d (.int k)) s = .ok (.d (sD (pw l k.toNat))) s := by
  show (if -1000000000 ≤ k ∧ k ≤ 1000000000 ∧ (sS l).length * k.toNat ≤ 1000000 then Res.ok (.d (.str (repS (sS l) k))) s else .stuck) = _
  rw [if_pos ⟨by omega, by omega, by rw [sS_len, Nat.mul_comm]; exact h3⟩]
  rfl
@[simp] theorem mulT_i (m : Bool) (i j s) : mulTX m (.d (.int i)) (.d (.int j)) s = mulX m (.d (.int i)) (.d (.int j)) s := nr rfl
@[simp] theorem mulT_t (m : Bool) (i j s) : mulTX m (.d (.tup i)) (.d (.int j)) s = mulX m (.d (.tup i)) (.d (.int j)) s := nr rfl
@[simp] theorem mulT_l (m : Bool) (i j s) : mulTX m (.d (.lst i)) (.d (.int j)) s = mulX m (.d (.lst i)) (.d (.int j)) s := nr rfl
@[simp] theorem mulT_r (m : Bool) (i j s) : mulTX m (.ref i) (.d (.int j)) s = mulX m (.ref i) (.d (.int j)) s := nr rfl
@[simp] theorem sumT_l (xs : List Int) (s) : sumTX [.d (.lst (nsD xs))] s = .ok (.d (.int xs.sum)) s := sum_ns xs s
@[simp] theorem sumT_t (xs : List Int) (s) : sumTX [.d (.tup (nsD xs))] s = .ok (.d (.int xs.sum)) s := by
  show (match allInts (nsD xs) with | some ns => okI ns.sum s | none => .stuck) = _
  rw [allInts_ns]
  rfl
/-! ### joining -/
@[simp] theorem e_joinF (f g ρ s) : joinF f g ρ s = (f ρ s).bind fun x s1 => match x with
  | .d (.str a) => (g ρ s1).bind fun y s2 => match y with
    | .d (.lst xs) => match allStr xs with
      | some ys => if (ys.map (fun z : Str => z.length)).sum + ys.length * a.length ≤ 16777216 then .ok (.d (.str (Txt.join a ys))) s2 else .stuck
      | none => .stuck
    | _ => .stuck
  | _ => .stuck := nr rfl
theorem allStr_s : ∀ ws : List (List Nat), allStr (ws.map sD) = some (ws.map sS)
  | [] => rfl
  | w :: ws => by
    show (allStr (ws.map sD)).map (sS w :: ·) = _
    rw [allStr_s ws]
    rfl
theorem join_fold : ∀ (ws : List (List Nat)) (a : List Nat), (ws.map sS).foldl (fun acc p => acc ++ (sS []).cps ++ p.cps) a.toArray = (a ++ ws.flatten).toArray
  | [], a => by simp
  | w :: ws, a => by
    rw [List.map_cons, List.foldl_cons]
    have e : a.toArray ++ (sS []).cps ++ (sS w).cps = (a ++ w).toArray := by simp
    rw [e, join_fold ws]
    simp
theorem join_s (ws : List (List Nat)) : Txt.join (sS []) (ws.map sS) = sS ws.flatten := by
  cases ws with
  | nil => rfl
  | cons w ws =>
    have e := join_fold ws w
    show (⟨((ws.map sS)).foldl (fun acc p => acc ++ (sS []).cps ++ p.cps) w.toArray⟩ : Str) = _
    rw [e]
    rfl
theorem join_k (ws : List (List Nat)) (s) (h : ws.flatten.length ≤ 1000000) : (match allStr (ws.map sD) with
      | some ys => if (ys.map (fun z : Str => z.length)).sum + ys.length * (sS []).length ≤ 16777216 then Res.ok (.d (.str (Txt.join (sS []) ys))) s else .stuck
      | none => .stuck) = .ok (.d (sD ws.flatten)) s := by
  have e : ((ws.map sS).map (fun z : Str => z.length)).sum = ws.flatten.length := by
    rw [List.map_map, List.length_flatten]
    rfl
  rw [allStr_s]
  dsimp only
  rw [e, if_pos (by rw [sS_len, List.length_nil, Nat.mul_zero]; omega), join_s]
/-! ### the letters of a text -/
@[simp] theorem e_strM (op f g ρ s) : strM op f g ρ s = (f ρ s).bind fun x s1 => match x with
  | .d (.str a) => (g ρ s1).bind fun ys s2 => match ys with
    | [.d (.str b)] => match op a b with
      | some d => .ok (.d d) s2
      | none => .stuck
    | _ => .stuck
  | _ => .stuck := nr rfl
theorem takeWhile_full {p : Nat → Bool} : ∀ {l : List Nat}, (∀ c ∈ l, p c = true) → l.takeWhile p = l
  | [], _ => rfl
  | c :: l, h => by
    rw [List.takeWhile_cons, if_pos (h c (List.mem_cons_self ..)), takeWhile_full fun x hx => h x (List.mem_cons_of_mem _ hx)]
theorem strip_s {l : List Nat} (h : Lt l) : Txt.stripChars (sS l) (sS ((List.range 26).map (· + 97))) = sS [] := by
  have hg : ∀ c ∈ l, (sS ((List.range 26).map (· + 97))).cps.contains c = true := fun c hc => by
    have := h c hc
    simp
    exact ⟨c - 97, by omega, by omega⟩
  unfold Txt.stripChars
  rw [stripBy_eq]
  have e : stripLo (sS ((List.range 26).map (· + 97))).cps.contains true (sS l) = l.length := by
    unfold stripLo
    rw [if_pos rfl, show (sS l).cps.toList = l from rfl, takeWhile_full hg]
  rw [e]
  apply Str.ext'
  apply Array.toList_inj.mp
  rw [StrLaws.strSub_toList]
  show List.take _ (List.drop l.length l) = _
  rw [List.drop_length, List.take_nil]
theorem opStrip_s {l : List Nat} (h : Lt l) (hl : l.length ≤ 1000000) : opStrip (sS l) (sS ((List.range 26).map (· + 97))) = some (sD []) := by
  unfold opStrip
  rw [if_pos (by rw [sS_len]; exact hl), strip_s h]
theorem cnt_s (c : Nat) : ∀ l : List Nat, cnt c l = (l.count c : Nat)
  | [] => rfl
  | x :: l => by
    rw [cnt_cons, cnt_s c l, List.count_cons]
    by_cases h : x = c
    · subst h
      simp
      omega
    · simp [h]
theorem opCount_s (l : List Nat) (c : Nat) : opCount (sS l) (sS [c]) = some (.int (l.count c : Nat)) := by
  unfold opCount
  rw [show sS [c] = ⟨#[c]⟩ from rfl, count_cnt, cnt_s]
/-! ### repr of a tuple of numbers -/
theorem ofs_lt (x : String) : ∀ c ∈ (Str.ofString x).cps.toList, c < 1114112 := by
  intro c hc
  rw [Str.ofString_eq_toList] at hc
  obtain ⟨d, _, rfl⟩ := List.mem_map.mp (by simpa using hc : c ∈ x.toList.map Char.toNat)
  have := d.valid
  have e : d.toNat = d.val.toNat := rfl
  unfold UInt32.isValidChar Nat.isValidChar at this
  omega
theorem app_lt {a b : Str} (ha : ∀ c ∈ a.cps.toList, c < 1114112) (hb : ∀ c ∈ b.cps.toList, c < 1114112) : ∀ c ∈ (a ++ b).cps.toList, c < 1114112 := by
  intro c hc
  rw [Str.cps_append, Array.toList_append, List.mem_append] at hc
  exact hc.elim (ha c) (hb c)
theorem join_lt {sep : Str} (hs : ∀ c ∈ sep.cps.toList, c < 1114112) : ∀ {ts : List Str}, (∀ t ∈ ts, ∀ c ∈ t.cps.toList, c < 1114112) → ∀ c ∈ (Str.join sep ts).cps.toList, c < 1114112
  | [], _ => fun c hc => nomatch hc
  | [t], h => h t (List.mem_cons_self ..)
  | t :: u :: r, h => app_lt (app_lt (h t (List.mem_cons_self ..)) hs) (join_lt hs fun x hx => h x (List.mem_cons_of_mem _ hx))
theorem toPs_ns : ∀ xs : List Int, toPs (nsD xs) = xs.map .int
  | [] => rfl
  | x :: xs => by
    show toPs (.int x :: nsD xs) = _
    unfold toPs
    rw [toPs_ns xs]
    unfold toP
    rfl
abbrev shN (xs : List Int) : Str := (toP (.tup (nsD xs))).shown
theorem shN_lt (xs : List Int) : ∀ c ∈ (shN xs).cps.toList, c < 1114112 := by
  unfold shN
  rw [show toP (.tup (nsD xs)) = .tuple (xs.map .int) by unfold toP; rw [toPs_ns], PyData.shown_tuple]
  refine app_lt (app_lt (ofs_lt _) (join_lt (ofs_lt _) ?_)) ?_
  · rw [PyData.shownAll_ints]
    intro t ht
    obtain ⟨n, _, rfl⟩ := List.mem_map.mp ht
    exact ofs_lt _
  · split <;> exact ofs_lt _
theorem flat_shN (xs : List Int) : flatS 32 (.str (shN xs)) = true := flat_st (shN_lt xs)
theorem shown_n {i : Int} (h : i.natAbs < 10 ^ 60) : (PyData.int i).shown.length ≤ 61 := by
  have e := int_text_length_le10 (k := 60) (by decide) h
  rw [PyData.shown_int]
  show (Str.ofString (toString i)).length ≤ 61
  rw [PySem.ofString_length]
  exact e
theorem lv_n : ∀ {xs : List Int}, (∀ x ∈ xs, x.natAbs < 10 ^ 60) → PyData.leavesShortAll 61 (xs.map .int) = true ∧ PyData.weightAll (xs.map .int) ≤ 202 * xs.length
  | [], _ => ⟨rfl, Nat.zero_le _⟩
  | x :: xs, h => by
    obtain ⟨h1, h2⟩ := lv_n fun y hy => h y (List.mem_cons_of_mem _ hy)
    have hx := h x (List.mem_cons_self ..)
    have hl : x.natAbs.log2 ≤ 199 := log_lt (Nat.lt_trans hx (by decide))
    refine ⟨?_, ?_⟩
    · simp only [List.map_cons, PyData.leavesShortAll, PyData.leavesShort, Bool.and_eq_true, decide_eq_true_eq]
      exact ⟨shown_n hx, h1⟩
    · simp only [List.map_cons, PyData.weightAll, PyData.weight, List.length_cons]
      split <;> omega
theorem repr_ns {xs : List Int} (s) (hl : xs.length ≤ 100) (h : ∀ x ∈ xs, x.natAbs < 10 ^ 60) : reprX [.d (.tup (nsD xs))] s = .ok (.d (.str (shN xs))) s := by
  have e : toP (.tup (nsD xs)) = .tuple (xs.map .int) := by unfold toP; rw [toPs_ns]
  have h1 : PyData.showable (toP (.tup (nsD xs))) = true := by
    rw [e]
    simp only [PyData.showable]
    exact PyData.showableAll_ints xs fun n hn => by
      have : n.natAbs.log2 ≤ 199 := log_lt (Nat.lt_trans (h n hn) (by decide))
      omega
  obtain ⟨h2, h3⟩ := lv_n h
  have h4 : (toP (.tup (nsD xs))).shown.length ≤ sizeLine := by
    rw [e]
    have k := PyData.shown_le 61 (by decide) (.tuple (xs.map .int)) (by simp only [PyData.leavesShort]; exact h2)
    rw [show PyData.weight (.tuple (xs.map .int)) = PyData.weightAll (xs.map .int) by simp only [PyData.weight]] at k
    rw [sizeLine_eq]
    omega
  show (match eqView (.d (.tup (nsD xs))) s with
    | some a => if (flatS 32 a && PyData.showable (toP a) && decide ((toP a).shown.length ≤ sizeLine)) = true then Res.ok (.d (.str (toP a).shown)) s else .stuck
    | none => .stuck) = _
  unfold eqView
  dsimp only
  rw [if_pos (by rw [h1, flat_ns, decide_eq_true h4]; rfl)]
end FL

set_option Elab.async false
set_option linter.all false
set_option maxRecDepth 100000
set_option maxHeartbeats 1000000
namespace FL
open PySem PySem.Spec PyProof.Rows L2
/-! ### evaluation lemmas made for k10 -/
@[simp] theorem eq_bb (n a b s) : eqX n (.d (.bl a)) (.d (.bl b)) s = .ok (.d (.bl (if n then !decide (a = b) else decide (a = b)))) s := by
  cases n <;> cases a <;> cases b <;> rfl
@[simp] theorem e_while (μ c b ρ s) : whileS μ c b ρ s = whileN c b (μ ρ s) ρ s := nr rfl
theorem whileN_t {c : FE} {b : FS} {n : Nat} {ρ r : Env'} {s s1 s2 : Sto} (h : c ρ s = .ok (.d (.bl true)) s1) (h2 : b ρ s1 = .nx r s2) : whileN c b (n + 1) ρ s = whileN c b n r s2 := by
  conv => lhs; unfold whileN
  rw [h]
  simp
  rw [h2]
theorem whileN_f {c : FE} {b : FS} {n : Nat} {ρ : Env'} {s s1 : Sto} (h : c ρ s = .ok (.d (.bl false)) s1) : whileN c b (n + 1) ρ s = .nx ρ s1 := by
  conv => lhs; unfold whileN
  rw [h]
  simp
theorem e_sl_lo_l {xs : List D} {j : Nat} (s) (h : j ≤ xs.length) : slX false (.d (.lst xs)) (.d .non) (.d (.int (j : Int))) s = .ok (.d (.lst (xs.take j))) s := by
  show mkL false (cutD xs none (some (j : Int))) s = _
  rw [cut_lo h]
  rfl
theorem e_sl_hi_l {xs : List D} {j : Nat} (s) (h : j ≤ xs.length) : slX false (.d (.lst xs)) (.d (.int (j : Int))) (.d .non) s = .ok (.d (.lst (xs.drop j))) s := by
  show mkL false (cutD xs (some (j : Int)) none) s = _
  rw [cut_hi h]
  rfl
theorem nsD_at {l : List Int} {j : Nat} {p : Int} (h : l[j]? = some p) : (nsD l)[j]? = some (.int p) := by
  rw [List.getElem?_map, h]
  rfl
theorem zw_at {α β γ : Type} {f : α → β → γ} {a : List α} {b : List β} {j : Nat} {v : γ} (h : (List.zipWith f a b)[j]? = some v) : ∃ x y, a[j]? = some x ∧ b[j]? = some y ∧ v = f x y := by
  rw [List.getElem?_zipWith] at h
  cases ha : a[j]? with
  | none => rw [ha] at h; cases h
  | some x =>
    cases hb : b[j]? with
    | none => rw [ha, hb] at h; cases h
    | some y =>
      rw [ha, hb] at h
      cases h
      exact ⟨x, y, rfl, rfl, rfl⟩
theorem e_setIx {fv fo fi : FE} {ρ : Env'} {s s1 : Sto} {v : D} {i j : Nat} {xs : List D} (h1 : fv ρ s = .ok (.d v) s1) (h2 : fo ρ s1 = .ok (.ref i) s1) (h3 : fi ρ s1 = .ok (.d (.int (j : Int))) s1) (h4 : s1[i]? = some (.lst xs)) (h5 : j < xs.length) : setIxS fv fo fi ρ s = .nx ρ (s1.set i (.lst (xs.set j v))) := by
  have e : ixN xs.length (j : Int) = some j := by
    unfold ixN
    rw [if_pos (by omega), if_pos (by omega)]
    rfl
  unfold setIxS
  rw [h1]
  simp
  rw [h2]
  simp
  rw [h3]
  simp [h4, e]
@[simp] theorem e_listT (xs s) : listX true [.d (.lst xs)] s = .ok (.ref s.length) (s ++ [.lst xs]) := nr rfl
theorem bdS {b : Int} (h1 : 1 ≤ b) (h2 : b ≤ 10000) : BdOk b 1 := by
  have hl : b.natAbs.log2 ≤ 13 := log_lt (by omega)
  refine ⟨by omega, by omega, ?_, by decide⟩
  unfold Builtin.Int.intBits
  rw [if_neg (by simp; omega)]
  have : ((b.natAbs.log2 + 1 : Nat) : Int) / 30 = 0 := Int.ediv_eq_zero_of_lt (by omega) (by omega)
  rw [this]
  rfl
theorem e_par3 {i j k : Nat} {g : FA} {ρ : Env'} {s s1 : Sto} {x y z : Xv} (h : g ρ s = .ok [x, y, z] s1) : par3S i j k g ρ s = .nx (((ρ.set i (some x)).set j (some y)).set k (some z)) s1 := by
  unfold par3S
  rw [h]
theorem tryVal_ok {sub : Nat → Nat → Bool} {ex : Nat → Bool} {k i j : Nat} {b : FS} {ρ r : Env'} {s s1 : Sto} (h : b ρ s = .nx r s1) : tryValS sub ex k i j b ρ s = .nx r s1 := by
  unfold tryValS
  rw [h]
theorem tryVal_x {sub : Nat → Nat → Bool} {ex : Nat → Bool} {k i j c : Nat} {b : FS} {ρ r : Env'} {s s1 : Sto} {d : D} (h : b ρ s = .exc (.exc c ["value"] [d]) r s1) (h2 : ex c = true ∧ i < r.length) (h3 : sub c k = true) : tryValS sub ex k i j b ρ s = .nx (((r.set i none).set j (some (.d d))).set i none) s1 := by
  unfold tryValS
  rw [h]
  dsimp only
  rw [if_pos h2, if_pos h3, getN_1]
@[simp] theorem perm01 {α : Type} (x y : α) : permL [0, 1] [x, y] = [x, y] := rfl
@[simp] theorem isNone_o (c ns vs n s) : isNoneX n (.d (.obj c ns vs)) (.d .non) s = .ok (.d (.bl n)) s := by cases n <;> rfl
def Pu (x : Option Xv) : Prop := ∀ i, x ≠ some (.ref i)
theorem pu_d (d : D) : Pu (some (.d d)) := fun i h => by cases h
theorem pu_n : Pu none := fun i h => by cases h
theorem frz_pu {x : Option Xv} (h : Pu x) (j : Nat) (d : D) : frzO j d x = x := by
  cases x with
  | none => rfl
  | some v =>
    cases v with
    | d v => rfl
    | ref i => exact (h i rfl).elim
theorem eqX_ns (m : Bool) (a b : List Int) (s) : eqX m (.d (.lst (nsD a))) (.d (.lst (nsD b))) s = .ok (.d (.bl (if m then !decide (a = b) else decide (a = b)))) s := by
  have it : ∀ a : List Int, intTs (nsD a) = true := fun a => by
    induction a with
    | nil => rfl
    | cons x a ih => exact ih
  have ft : ∀ a : List Int, flatS 32 (.lst (nsD a)) = true := fun a => by
    unfold flatS
    rw [List.all_eq_true]
    intro x hx
    obtain ⟨n, _, rfl⟩ := List.mem_map.mp hx
    rfl
  have bq : ∀ a b : List Int, beqDs (nsD a) (nsD b) = decide (a = b) := by
    intro a
    induction a with
    | nil => intro b; cases b <;> rfl
    | cons x a ih =>
      intro b
      cases b with
      | nil => rfl
      | cons y b =>
        show (beqD (.int x) (.int y) && beqDs (nsD a) (nsD b)) = _
        rw [ih b]
        simp only [beqD]
        by_cases h1 : x = y <;> by_cases h2 : a = b <;> simp [h1, h2]
  rw [eqX_t m s (by unfold intT; exact it a) (by unfold intT; exact it b) (ft a) (ft b)]
  simp only [beqD, bq]
end FL

set_option Elab.async false
set_option linter.all false
set_option maxRecDepth 100000
set_option maxHeartbeats 1000000
namespace FL
section
open PySem PySem.W PySem.Calls PySem.HandSPX
open PyProof.Rows hiding wpAt wpAt_bind wpAt_stack
/-! ### errors as values -/
section
variable {prog : Program} {w : World} {A : Around} {E : Value → Shared → Prop} {R : Result → Shared → Prop} {h : Heap} {g : Array GenState} {d : Drawn} {t : Nat} {os : OsState}
variable {nm q : Str} {C N : Addr} {bs bm bmB : List Value} {hdct : Bool} {sn : List Str} {sub : List Value} {ab : Bool} {col : Option Bool} {dd : Option Addr} {k0 k1 k2 k3 k5 : Option Value} {B newId initId : String}
/-- a keyword is let through by __new__ -/
theorem kw_check (F : ExcBaseFacts B newId initId bmB) (hT : ∀ X : String, bm.contains (.type X) = bmB.contains (.type X)) {kn : Str} {kv : Value} {Q : Unit → Shared → Prop} (hC : h.get? C = some (excClassObj nm q C N bs bm hdct sn sub ab col dd k0 k1 k2 k3 k5 newId)) (hq : Q () ⟨h, g, d, t, os⟩) :
    wpAny (model prog w) A (checkBuiltinCall newId ⟨[.ref C], [(kn, kv)]⟩) Q E ⟨h, g, d, t, os⟩ := by
  have c1 : (Value.ref C :: bm).contains (.type B) = true := by
    rw [List.contains_cons, hT, F.hasB, Bool.or_true]
  have c2 := F.noStar
  unfold checkBuiltinCall
  simp only [F.newKind, F.newSplit, F.newRow]
  repeat (first | exact hq | refine wpAny_loadPart_at hC ?_ | (refine wpAny_isSubtype_exc hC ?_; rw [c1]) | refine wpAny_staticBase_exc hC ?_ | refine wpAny_madeBy_exc hC ?_ | simp only [bne_self_eq_false, Bool.false_eq_true, if_false] | wp_step)
theorem kw_new (F : ExcBaseFacts B newId initId bmB) (hT : ∀ X : String, bm.contains (.type X) = bmB.contains (.type X)) {kn : Str} {kv : Value} (hC : h.get? C = some (excClassObj nm q C N bs bm hdct sn sub ab col dd k0 k1 k2 k3 k5 newId))
    (hq : R (.ok (.ret (.ref (h.objs.size + 1)))) ⟨(h.push (kdv_tup [])).push (excO C h.objs.size), g, d, t, os⟩) : codeAny (model prog w) A (.builtin newId ⟨[.ref C], [(kn, kv)]⟩) R ⟨h, g, d, t, os⟩ := by
  have e0 := F.ends
  have c1 : (Value.ref C :: bm).contains (.type B) = true := by
    rw [List.contains_cons, hT, F.hasB, Bool.or_true]
  have c2 : (Value.ref C :: bm).contains (.type "AttributeError") = false := by
    rw [List.contains_cons, hT, F.noAttr]
    rfl
  have c3 : (Value.ref C :: bm).contains (.type "NameError") = false := by
    rw [List.contains_cons, hT, F.noName]
    rfl
  refine codeAny_builtinAt F.entry (PySem.wpAt_bind ?_)
  show PySem.wpAt _ _ _ (stack >>= _) _ _ _
  refine PySem.wpAt_bind (PySem.wpAt_stack fun p below => PySem.wpAt_of_wpAny ?_)
  wp_walk
  refine PySem.wpAt_of_wpAny ?_
  rw [F.owner]
  repeat (first | with_reducible refine wpAny_madeHere_exc F.canon hC ?_ | with_reducible refine wpAny_loadPart_at hC ?_ | (with_reducible refine wpAny_isSubtype_exc hC ?_; first | rw [c1] | rw [c2] | rw [c3]) | wp_step)
  show R _ _
  rw [Heap.size_push]
  exact hq
/-- the whole call with one keyword: the own __init__ is handed the keyword -/
theorem kw_type (F : ExcBaseFacts B newId initId bmB) (hT : ∀ X : String, bm.contains (.type X) = bmB.contains (.type X)) {kn : Str} {kv : Value} {fI : Addr} {Q : PySem.Fin → Shared → Prop} (hC : h.get? C = some (excClassObj nm q C N bs bm hdct sn sub ab col dd k0 k1 k2 k3 k5 newId))
    (hi : Looks (model prog w) h (typeLookup (.ref C) "__init__") (some (.ref fI))) (hb : ∀ self, Looks (model prog w) h (bindSpecial (.ref fI) self) (.ref fI, [self]))
    (hq : codeAny (model prog w) A (.call (.ref fI) ⟨[.ref (h.objs.size + 1)], [(kn, kv)]⟩) (fun r s' => match r with | .ok (.ret v) => v = .none ∧ Q (.done (.ret (.ref (h.objs.size + 1)))) s' | .ok _ => False | .error e => E e s') ⟨(h.push (kdv_tup [])).push (excO C h.objs.size), g, d, t, os⟩) :
    wpAny (model prog w) A (Builtin.«type.__call__» ⟨[.ref C], [(kn, kv)]⟩) Q E ⟨h, g, d, t, os⟩ := by
  repeat (first | with_reducible refine wpAny_loadPart_at hC ?_ | with_reducible refine wpAny_madeBy_exc hC ?_ | wp_step)
  refine codeAny_call_builtin_code (Code.quiet_builtin _ F.quiet) (kw_check F hT hC (kw_new F hT hC ?_))
  show wpAny _ _ _ _ _ _
  have up : ∀ b o, h.get? b = some o → ((h.push (kdv_tup [])).push (excO C h.objs.size)).get? b = some o := fun b o z => Heap.get?_push_of_some _ (Heap.get?_push_of_some _ z)
  have new : ((h.push (kdv_tup [])).push (excO C h.objs.size)).get? (h.objs.size + 1) = some (excO C h.objs.size) := by heap_get
  have cC := up _ _ hC
  have own : (Value.ref C :: bm).contains (.ref C) = true := by simp
  have j1 := hi.keeps up
  have j2 := (hb (.ref (h.objs.size + 1))).keeps up
  unfold isInstance
  repeat (first | with_reducible refine wpAny_loadPart_at new ?_ | (with_reducible refine wpAny_isSubtype_exc cC ?_; rw [own]) | wp_step)
  show wpAny _ _ (typeLookup (.ref C) _) _ _ _
  refine j1.at (wpAny_holding (wpAny_bind (j2.at (wpAny_bind (wpAny_call (codeAny_mono hq fun r s' z => ?_))))))
  rcases r with e | (v | _ | _ | _) <;> first | exact z | exact z.elim | skip
  obtain ⟨rfl, z⟩ := z
  first
    | exact wpAny_pure (wpAny_pure z)
    | (wp_walk; exact z)
theorem kw_call (F : ExcBaseFacts B newId initId bmB) (hT : ∀ X : String, bm.contains (.type X) = bmB.contains (.type X)) {kn : Str} {kv : Value} {fI : Addr} (hC : h.get? C = some (excClassObj nm q C N bs bm hdct sn sub ab col dd k0 k1 k2 k3 k5 newId))
    (hi : Looks (model prog w) h (typeLookup (.ref C) "__init__") (some (.ref fI))) (hb : ∀ self, Looks (model prog w) h (bindSpecial (.ref fI) self) (.ref fI, [self]))
    (hq : codeAny (model prog w) (A.under (.builtin "type.__call__" ⟨[.ref C], [(kn, kv)]⟩)) (.call (.ref fI) ⟨[.ref (h.objs.size + 1)], [(kn, kv)]⟩) (InitBack (h.objs.size + 1) R) ⟨(h.push (kdv_tup [])).push (excO C h.objs.size), g, d, t, os⟩) :
    codeAny (model prog w) A (.call (.ref C) ⟨[], [(kn, kv)]⟩) R ⟨h, g, d, t, os⟩ := by
  have t1 := tc_lookup
  have t2 := tc_bind (.ref C)
  have ty : (⟨h, g, d, t, os⟩ : Shared).TypeIs (.ref C) "type" := ⟨_, hC, rfl⟩
  refine codeAny_of_tree ?_
  show wpAny _ _ (callAny (.ref C) _) _ _ _
  repeat (any_goals (first | assumption | with_reducible refine wpAny_loadPart_at hC ?_ | wp_step))
  refine ⟨rfl, codeAny_call_builtin_at (Code.quiet_builtin _ (by decide +kernel)) entry_typeCall (wpAny_check_type_call_sub hC (kw_type F hT hC hi hb (codeAny_mono hq fun r s' z => ?_)))⟩
  rcases r with e | (v | _ | _ | _) <;> exact z
end
end
section
open PySem PySem.W PySem.Calls PyProof.Rows PySem.HandSPX
theorem err_binds0 {s : Shared} {qual : Str} {p1 p2 pd : Pos} {body : List Stmt} {Td : Addr} {kV doc pm cdv ct : Value} {an : Option Addr} {cc : Addr} {oT : Obj} {n : Nat} {a : Value} (hT : s.heap.get? Td = some oT) (hd : oT.data = .seq #[.none] n) :
    BindsTo s (ksFn "__init__" qual (iA p1 p2 pd) body iS (.ref Td) kV doc pm an cdv ct cc) ⟨[a], []⟩ [("self", a), ("value", .none)] := by
  intro M A E Q h
  have e : ∃ k, bindArgs (ksFn "__init__" qual (iA p1 p2 pd) body iS (.ref Td) kV doc pm an cdv ct cc) ⟨[a], []⟩ = seqItems? (.ref Td) >>= k ∧ k (some #[.none]) = pure ([("self", a), ("value", .none)] : List (Str × Value)) := ⟨_, rfl, by first | with_unfolding_all rfl | kernel_rfl⟩
  obtain ⟨k, e1, e2⟩ := e
  rw [e1]
  exact wpAny_bind (wpAny_seqItems hT hd (wpAny_of_eq e2 h))
theorem err_bindsK {s : Shared} {qual : Str} {p1 p2 pd : Pos} {body : List Stmt} {Td : Addr} {kV doc pm cdv ct : Value} {an : Option Addr} {cc : Addr} {oT : Obj} {n : Nat} {a v : Value} (hT : s.heap.get? Td = some oT) (hd : oT.data = .seq #[.none] n) :
    BindsTo s (ksFn "__init__" qual (iA p1 p2 pd) body iS (.ref Td) kV doc pm an cdv ct cc) ⟨[a], [("value", v)]⟩ [("self", a), ("value", v)] := by
  intro M A E Q h
  have e : ∃ k, bindArgs (ksFn "__init__" qual (iA p1 p2 pd) body iS (.ref Td) kV doc pm an cdv ct cc) ⟨[a], [("value", v)]⟩ = seqItems? (.ref Td) >>= k ∧ k (some #[.none]) = pure ([("self", a), ("value", v)] : List (Str × Value)) := ⟨_, rfl, by first | with_unfolding_all rfl | kernel_rfl⟩
  obtain ⟨k, e1, e2⟩ := e
  rw [e1]
  exact wpAny_bind (wpAny_seqItems hT hd (wpAny_of_eq e2 h))
section
variable {prog : Program} {w : World} {A : Around} {E : Value → Shared → Prop} {R : Result → Shared → Prop} {s : Shared} {K : Frag} {mg mb : Str → Option Value} {C fI : Addr}
theorem err_initA (T : ErrTxt prog K C fI) {x t0 : Addr} {v : Value} {ar : Args} (hbd : ∀ {qual : Str} {p1 p2 pd : Pos} {body : List Stmt} {Td : Addr} {kV doc pm cdv ct : Value} {an : Option Addr} {cc : Addr} {oT : Obj} {n : Nat}, s.heap.get? Td = some oT → oT.data = .seq #[.none] n → BindsTo s (ksFn "__init__" qual (iA p1 p2 pd) body iS (.ref Td) kV doc pm an cdv ct cc) ar [("self", .ref x), ("value", v)]) (X : K.In s.heap) (hlim : s.heap.NoLimit) (hg : s.heap.Ns mainGlobals mg) (hb : s.heap.Ns builtinsNs mb) (hms : mg "super" = none) (hbs : mb "super" = some (.type "super"))
    (hx : s.heap.get? x = some (excO C t0)) (hnx : K.lookup x = none) (hroom : A.depth < recursionLimit)
    (hq : ∀ h' tk dx t1, InitEnd s.heap h' x C dx t1 v → R (.ok (.ret .none)) { s with heap := h', toks := tk }) :
    codeAny (model prog w) A (.call (.ref fI) ar) R s := by
  obtain ⟨oc, od, Td, oT, nT, kV, doc, pm, an, cda, ct, osl, p1, p2, q1, q2, q3, q4, q5, q6, q7, q8, q9, qa, pd, qual, cc, ccl, cdd, vs, ccs, file, tf, cl, cld, csl, ho, hcd, hTd, hTs, hqq, hcda, hvs, hfile, hcell⟩ := T.fn
  obtain ⟨nm, q, N, bs, bm, sn, sub, ab, col, dd2, k0, k1, k2, k3, k5, hC, hbm⟩ := T.cls
  have hcl : clsIn K C = some { name := nm, bases := bs, mro := .ref C :: bm, ns := N, qualname := q, hasDict := true, slotNames := sn, subclasses := sub, abstract := ab, collection := col, hasDel := false } := by unfold clsIn; rw [hC] <;> rfl
  refine ks_codeAny_call_defAt (binds := [("self", .ref x), ("value", v)]) hroom (X _ _ ho) rfl hlim (codeRec_of X hcd) rfl (hbd (X _ _ hTd) hTs) iS_c (iS_l _ _) (fun h₁ hn k => ?_) rfl rfl rfl
  have hxL : s.heap.objs.size ≠ x := Nat.ne_of_gt (Heap.lt_size hx)
  -- the exception is hidden in what stands
  have F1 : Fr (hideAll s.heap [x]) s.heap.objs.size h₁ (fun y => List.lookup y ([("self", .ref x), ("value", v)] : List (Str × Value)).reverse) := ⟨hn, fun b o e => k b o (of_hideAll _ e), Nat.le_of_eq (hideAll_size _ _)⟩
  have N1 : News (hideAll s.heap [x]) s.heap.objs.size h₁ [(x, excObj C t0 none .none)] := fun p hp => by
    have e : p = (x, excObj C t0 none .none) := by simpa using hp
    subst e
    exact ⟨k _ _ hx, hxL.symm, hideAll_none _ (by simp)⟩
  have Xg : K.In (hideAll s.heap [x]) := fun b o e => hideAll_get [x] (X _ _ e) (fun z => by
    have z' : b = x := by simpa using z
    subst z'
    rw [hnx] at e
    cases e)
  have X1 : K.In h₁ := X.keeps k
  have kS : ∀ (nm : Str), (ksEnv qual iS s.heap.objs.size fI (.ref cda) cc).kindOf nm = iS.names.lookup nm := fun nm => rfl
  refine ks_wpAt_execs_cons (ks_wpAt_Expr_any (ks_wpAt_MethodCall (pl := do
            let b ← importBound (.Call (.Name "super" q1) [] [] q2) (ksEnv qual iS s.heap.objs.size fI (.ref cda) cc)
            pure (b.getD true)) ?_ (ev_sup _ _ _ _ _ _ hqq)) rfl rfl)
  obtain ⟨oD, hD1, hD2⟩ : ∃ oD, h₁.get? C = some oD ∧ oD.data = .cls { name := nm, bases := bs, mro := .ref C :: bm, ns := N, qualname := q, hasDict := true, slotNames := sn, subclasses := sub, abstract := ab, collection := col, hasDel := false } := ⟨_, X1 _ _ hC, rfl⟩
  refine ks_wpAt_super_base (f := fI) (cc := cda) (ar := { arg := "self", annotation := none, pos := p1 }) iS_sup iS_cls (by decide +kernel) rfl (X1 _ _ ho) rfl rfl rfl (X1 _ _ hcda) rfl hvs hfile T.top ?_
  refine ks_loadName_global rfl iS_sup (Calls.loadGlobal_builtin (hg.keeps k) hms (hb.keeps k) hbs ⟨rfl, ?_⟩)
  refine wpAny_loadName_free (c := cc) rfl iS_cls rfl ⟨_, X1 _ _ hcell, rfl⟩ ?_
  refine wpAny_loadName_local rfl iS_self hn (show List.lookup ("self" : Str) ([("self", .ref x), ("value", v)] : List (Str × Value)).reverse = some (.ref x) by rfl) ?_
  refine ks_wpAny_isType_cls hD1 hD2 ⟨rfl, ?_⟩
  refine ks_wpAny_call_super hD1 hD2 (k _ _ hx) rfl (fun c e => by cases e) (looks_mroIn X1 T.mC) fun h₂ e₂ k₂ => ?_
  obtain ⟨F2, N2, l2⟩ := ks_newsPush (s := { heap := h₁, gens := s.gens, drawn := s.drawn, toks := s.toks + 2, os := s.os }) F1 N1 rfl e₂ k₂
  refine kxs_method kxs_ValueError F2 Xg N2 (x := x) (C := C) (D := C) (ox := excO C t0) (odx := none) (List.mem_cons_self ..) ⟨(N2 _ (List.mem_cons_of_mem _ (List.mem_cons_self ..))).1, rfl, rfl, trivial⟩ T.nt T.sup T.sV (by decide +kernel) fun u h₃ F3 N3 l3 => ?_
  refine kxs_callWith1 N3 (u := u) (i := "ValueError.__init__") (List.mem_cons_self ..) ?_ rfl rfl
  have nso : (h₁.objs.size : Addr) ≠ x := Ne.symm (Nat.ne_of_lt (l2 _ (List.mem_cons_self ..)))
  have nu : u ≠ x := Ne.symm (Nat.ne_of_lt (l3 (x, excObj C t0 none .none) (List.mem_cons_of_mem _ (List.mem_cons_self ..))))
  refine PyProof.Rows.spliced_more (ldE (v := v) F3.ns (by rfl) (PyProof.Rows.spliced_none ⟨kxs_at N3 (List.mem_cons_self ..), ?_⟩) rfl iS_val) rfl
  refine kxs_call F3 Xg N3 F.excBase_ValueError T.xi (List.mem_cons_self ..) (.tail nu (.tail nso (.head fun p hp => nomatch hp))) (one_sz v) fun t1 h₄ F4 N4 l4 => ?_
  have hx4 : h₄.get? x = some (excO C t1) := (N4 (x, excObj C t1 none .none) (by simp)).1
  have X4 : K.In h₄ := Xg.keeps F4.keep
  refine wpAt_of_wpAny (wpAny_execs_cons (plainObj_wpAny_Assign_Attribute ?_))
  refine ldE (v := v) F4.ns (by rfl) (ldE (v := .ref x) F4.ns (by rfl) ?_ rfl iS_self) rfl iS_val
  refine set_plain X4 (ox := excO C t1) (od := none) ⟨hx4, rfl, rfl, trivial⟩ T.sa ?_
  refine exc_osa X4 hx4 hcl (show refsVE (.ref C :: bm) = true from hbm) rfl T.noN (fun h₅ tk₅ dx k₅ dn dne hx₅ hn₅ => ?_)
  have old : ∀ b o, b ≠ x → s.heap.get? b = some o → h₅.get? b = some o := fun b o hb e => k₅ b o hb (F4.keep b o (hideAll_get [x] e (by simpa using hb)))
  have sz : s.heap.objs.size ≤ dx := by
    have q : s.heap.objs.size < h₄.objs.size := F4.ns.lt
    exact Nat.le_of_lt (Nat.lt_of_lt_of_le q dn)
  exact wpAny_execs_nil (hq h₅ tk₅ dx t1 ⟨old, hx₅, sz, dne, hn₅⟩)
theorem err_made1 (T : ErrTxt prog K C fI) {v : Value} (X : K.In s.heap) (hlim : s.heap.NoLimit) (hg : s.heap.Ns mainGlobals mg) (hb : s.heap.Ns builtinsNs mb) (hms : mg "super" = none) (hbs : mb "super" = some (.type "super")) (hroom : A.depth + 1 < recursionLimit)
    (hq : ∀ h' tk e d, OwnMade s.heap h' e C d v → R (.ok (.ret (.ref e))) { s with heap := h', toks := tk }) :
    codeAny (model prog w) A (.call (.ref C) ⟨[v], []⟩) R s := by
  obtain ⟨nm, q, N, bs, bm, sn, sub, ab, col, dd, k0, k1, k2, k3, k5, hC, hbm⟩ := T.cls
  obtain ⟨hp, g, dr, tk, os⟩ := s
  have k : ∀ b o, hp.get? b = some o → ((hp.push (kdv_tup [v])).push (excO C hp.objs.size)).get? b = some o := fun b o e => Heap.get?_push_of_some _ (Heap.get?_push_of_some _ e)
  have hget : ((hp.push (kdv_tup [v])).push (excO C hp.objs.size)).get? (hp.objs.size + 1) = some (excO C hp.objs.size) := by heap_get
  have hnx : K.lookup (hp.objs.size + 1) = none := by
    cases e : K.lookup (hp.objs.size + 1) with
    | none => rfl
    | some o =>
      have z : hp.get? (hp.objs.size + 1) = some o := X _ _ e
      exact absurd (Nat.lt_of_succ_lt (Heap.lt_size z)) (Nat.lt_irrefl _)
  refine call_own F.excBase_ValueError (fun X => refsVE_contains X bm hbm) (X _ _ hC) (looks_findIn X T.iC) (fun self => bind_fn X self T.tC) (one_sz v) ?_
  refine err_initA (s := ⟨(hp.push (kdv_tup [v])).push (excO C hp.objs.size), g, dr, tk, os⟩) T (fun z y => err_binds z y) (X.keeps k) (hlim.keeps k) (hg.keeps k) (hb.keeps k) hms hbs hget hnx ?_ fun h' tk' dx t1 ⟨k', hx, dn, dne, hns⟩ => ?_
  · show A.depth + 1 < recursionLimit
    exact hroom
  · have old : ∀ b o, hp.get? b = some o → h'.get? b = some o := fun b o e => k' b o (Nat.ne_of_lt (Nat.lt_succ_of_lt (Heap.lt_size e))) (k b o e)
    have z : hp.objs.size + 1 + 1 ≤ dx := by
      first
        | (simpa only [Heap.size_push] using dn)
        | exact dn
        | (have q := dn; rw [Heap.size_push, Heap.size_push] at q; exact q)
    exact ⟨rfl, hq h' tk' (hp.objs.size + 1) dx ⟨old, Nat.le_succ _, ⟨_, _, hx, rfl, rfl, rfl, rfl⟩, Nat.le_trans (Nat.le_trans (Nat.le_succ _) (Nat.le_succ _)) z, dne, hns⟩⟩
theorem err_made0 (T : ErrTxt prog K C fI) (X : K.In s.heap) (hlim : s.heap.NoLimit) (hg : s.heap.Ns mainGlobals mg) (hb : s.heap.Ns builtinsNs mb) (hms : mg "super" = none) (hbs : mb "super" = some (.type "super")) (hroom : A.depth + 1 < recursionLimit)
    (hq : ∀ h' tk e d, OwnMade s.heap h' e C d .none → R (.ok (.ret (.ref e))) { s with heap := h', toks := tk }) :
    codeAny (model prog w) A (.call (.ref C) ⟨[], []⟩) R s := by
  obtain ⟨nm, q, N, bs, bm, sn, sub, ab, col, dd, k0, k1, k2, k3, k5, hC, hbm⟩ := T.cls
  obtain ⟨hp, g, dr, tk, os⟩ := s
  have k : ∀ b o, hp.get? b = some o → ((hp.push (kdv_tup [])).push (excO C hp.objs.size)).get? b = some o := fun b o e => Heap.get?_push_of_some _ (Heap.get?_push_of_some _ e)
  have hget : ((hp.push (kdv_tup [])).push (excO C hp.objs.size)).get? (hp.objs.size + 1) = some (excO C hp.objs.size) := by heap_get
  have hnx : K.lookup (hp.objs.size + 1) = none := by
    cases e : K.lookup (hp.objs.size + 1) with
    | none => rfl
    | some o =>
      have z : hp.get? (hp.objs.size + 1) = some o := X _ _ e
      exact absurd (Nat.lt_of_succ_lt (Heap.lt_size z)) (Nat.lt_irrefl _)
  refine call_own F.excBase_ValueError (fun X => refsVE_contains X bm hbm) (X _ _ hC) (looks_findIn X T.iC) (fun self => bind_fn X self T.tC) (by rw [sizeLine_eq]; exact Nat.zero_le _) ?_
  refine err_initA (s := ⟨(hp.push (kdv_tup [])).push (excO C hp.objs.size), g, dr, tk, os⟩) T (fun z y => err_binds0 z y) (X.keeps k) (hlim.keeps k) (hg.keeps k) (hb.keeps k) hms hbs hget hnx ?_ fun h' tk' dx t1 ⟨k', hx, dn, dne, hns⟩ => ?_
  · show A.depth + 1 < recursionLimit
    exact hroom
  · have old : ∀ b o, hp.get? b = some o → h'.get? b = some o := fun b o e => k' b o (Nat.ne_of_lt (Nat.lt_succ_of_lt (Heap.lt_size e))) (k b o e)
    have z : hp.objs.size + 1 + 1 ≤ dx := by
      first
        | (simpa only [Heap.size_push] using dn)
        | exact dn
        | (have q := dn; rw [Heap.size_push, Heap.size_push] at q; exact q)
    exact ⟨rfl, hq h' tk' (hp.objs.size + 1) dx ⟨old, Nat.le_succ _, ⟨_, _, hx, rfl, rfl, rfl, rfl⟩, Nat.le_trans (Nat.le_trans (Nat.le_succ _) (Nat.le_succ _)) z, dne, hns⟩⟩
theorem err_madeK (T : ErrTxt prog K C fI) {v : Value} (X : K.In s.heap) (hlim : s.heap.NoLimit) (hg : s.heap.Ns mainGlobals mg) (hb : s.heap.Ns builtinsNs mb) (hms : mg "super" = none) (hbs : mb "super" = some (.type "super")) (hroom : A.depth + 1 < recursionLimit)
    (hq : ∀ h' tk e d, OwnMade s.heap h' e C d v → R (.ok (.ret (.ref e))) { s with heap := h', toks := tk }) :
    codeAny (model prog w) A (.call (.ref C) ⟨[], [("value", v)]⟩) R s := by
  obtain ⟨nm, q, N, bs, bm, sn, sub, ab, col, dd, k0, k1, k2, k3, k5, hC, hbm⟩ := T.cls
  obtain ⟨hp, g, dr, tk, os⟩ := s
  have k : ∀ b o, hp.get? b = some o → ((hp.push (kdv_tup [])).push (excO C hp.objs.size)).get? b = some o := fun b o e => Heap.get?_push_of_some _ (Heap.get?_push_of_some _ e)
  have hget : ((hp.push (kdv_tup [])).push (excO C hp.objs.size)).get? (hp.objs.size + 1) = some (excO C hp.objs.size) := by heap_get
  have hnx : K.lookup (hp.objs.size + 1) = none := by
    cases e : K.lookup (hp.objs.size + 1) with
    | none => rfl
    | some o =>
      have z : hp.get? (hp.objs.size + 1) = some o := X _ _ e
      exact absurd (Nat.lt_of_succ_lt (Heap.lt_size z)) (Nat.lt_irrefl _)
  refine kw_call F.excBase_ValueError (fun X => refsVE_contains X bm hbm) (X _ _ hC) (looks_findIn X T.iC) (fun self => bind_fn X self T.tC) ?_
  refine err_initA (s := ⟨(hp.push (kdv_tup [])).push (excO C hp.objs.size), g, dr, tk, os⟩) T (fun z y => err_bindsK z y) (X.keeps k) (hlim.keeps k) (hg.keeps k) (hb.keeps k) hms hbs hget hnx ?_ fun h' tk' dx t1 ⟨k', hx, dn, dne, hns⟩ => ?_
  · show A.depth + 1 < recursionLimit
    exact hroom
  · have old : ∀ b o, hp.get? b = some o → h'.get? b = some o := fun b o e => k' b o (Nat.ne_of_lt (Nat.lt_succ_of_lt (Heap.lt_size e))) (k b o e)
    have z : hp.objs.size + 1 + 1 ≤ dx := by
      first
        | (simpa only [Heap.size_push] using dn)
        | exact dn
        | (have q := dn; rw [Heap.size_push, Heap.size_push] at q; exact q)
    exact ⟨rfl, hq h' tk' (hp.objs.size + 1) dx ⟨old, Nat.le_succ _, ⟨_, _, hx, rfl, rfl, rfl, rfl⟩, Nat.le_trans (Nat.le_trans (Nat.le_succ _) (Nat.le_succ _)) z, dne, hns⟩⟩
end

open PySem.Spec L2
theorem relO_fld {v : V} {v' : Value} (r : RelV v v') (f : Str) : RelO (List.lookup f [(("value" : Str), v)]) (if f = "value" then some v' else none) := by
  by_cases hw : f = "value"
  · subst hw
    rw [if_pos rfl]
    have q : List.lookup ("value" : Str) [(("value" : Str), v)] = some v := by simp [List.lookup]
    rw [q]
    exact r
  · rw [if_neg hw]
    have qw : (f == ("value" : Str)) = false := by simpa using hw
    have q2 : List.lookup f [(("value" : Str), v)] = none := by simp [List.lookup, qw]
    rw [q2]
    trivial
section
variable {X : Cx} {C fI : Addr}
/-- a fresh error among what is followed -/
theorem made_inv {pins : List (Addr × Obj)} {σ : L2.St} {H1 : Hp} {Q : VK} {hp h' : Heap} {g : Array GenState} {dr : Drawn} {tk tk' : Nat} {os : OsState} {e d : Addr} {v : V} {v' : Value} (I1 : Inv X pins σ H1 ⟨hp, g, dr, tk, os⟩) (M : OwnMade hp h' e C d v') (rv : RelV v v')
    (q : ∀ e d, e ≠ d → H1 e = none → H1 d = none → Q (.ref e) (upd (upd H1 d (.xd [("value", v)])) e (ExA (.ref C) (some d) e))) : EP X pins σ Q (.ref e) ⟨h', g, dr, tk', os⟩ := by
  obtain ⟨oe, fv, hoe, hc, hd, hdat, h1⟩ := M.obj
  have hns := M.ns
  obtain ⟨G', g1, g2⟩ := restrict h' fun b => decide (b ≠ e)
  have gk : ∀ b, b ≠ e → G'.get? b = h'.get? b := fun b hb => g1 b (decide_eq_true hb)
  have ge : G'.get? e = none := g2 e (by simp)
  have old : ∀ b o, hp.get? b = some o → G'.get? b = some o := fun b o q => (gk b (Nat.ne_of_lt (Nat.lt_of_lt_of_le (Heap.lt_size q) M.new))).trans (M.keep b o q)
  have ob : ObjOk X.prog X.w (upd H1 d (.xd [(("value" : Str), v)])) G' d (.xd [(("value" : Str), v)]) := ⟨_, hns.at (fun o q => (gk d M.dne).trans q), fun f => relO_fld rv f⟩
  have J : Inv X pins σ (upd H1 d (.xd [(("value" : Str), v)])) ⟨G', g, dr, tk', os⟩ := I1.laid (t' := tk') old M.dbig ob
  have fe : H1 e = none := I1.hok.fresh M.new
  have fd : H1 d = none := I1.hok.fresh M.dbig
  have up : ∀ b u, G'.get? b = some u → h'.get? b = some u := fun b u z => by
    by_cases hb : b = e
    · rw [hb, ge] at z
      cases z
    · exact (gk b hb).symm.trans z
  have hn : (upd H1 d (.xd [(("value" : Str), v)])) e = none := by rw [upd_ne (Ne.symm M.dne)]; exact fe
  have J2 : Inv X pins σ (upd (upd H1 d (.xd [(("value" : Str), v)])) e (ExA (.ref C) (some d) e)) ⟨h', g, dr, tk', os⟩ := J.laidN (h' := h') (t' := tk') up ge hn ⟨⟨oe, hoe, ⟨hc, hd⟩, fv, hdat⟩, ⟨oe, hoe⟩, fun h3 h4 ⟨o1, z1, z2, z3⟩ k => ⟨o1, k _ z1, z2, z3⟩⟩
  exact ⟨.ref e, _, J2, rfl, q e d (Ne.symm M.dne) fe fd⟩
theorem pe_mkE {a : Expr} {ta : TA} {x : Str} {p pos : Pos} {k : Nat} (T : ErrTxt X.prog X.K C fI) (hr : Room k X.A) (gC : X.mg x = some (.ref C)) (hsu : X.mg "super" = none) (ha : PA X [a] ta) (hg : Gl X x := by rfl) (hdb : (x == ("__debug__" : Str)) = false := by decide)
    (he : starEach (a :: []) X.env = (false, eval a X.env) :: starEach [] X.env := by rfl) (hpl : (backTo pos (starEach [] X.env)).any (·.1) = false := by rfl) :
    PE X (.Call (.Name x p) [a] [] pos) (fun σ H Q => ta σ H fun vs H1 => ∃ v, vs = [v] ∧ ∀ e d, e ≠ d → H1 e = none → H1 d = none → Q (.ref e) (upd (upd H1 d (.xd [("value", v)])) e (ExA (.ref C) (some d) e))) := ⟨fun pins s σ H Q I h => by
  refine wpAny_Call_Name_kw (ld_glob I hg gC ?_ hdb)
  refine PySem.W.callWith_K (h₀ := X.base) I.ok.mod.kin T.kC (thn (ha.run pos pins s σ H _ I h) fun us s1 hh => ?_) he hpl
  obtain ⟨vs, H1, I1, r1, v, ev, q1⟩ := hh
  subst ev
  refine ⟨I1.kIn, ?_⟩
  cases r1 with
  | cons rv rn =>
    rename_i v' us'
    cases rn
    show wpAny _ _ (call (.ref C) [v']) _ _ _
    have hlim := I1.nolimit
    obtain ⟨mb, hb1, hb2⟩ := I1.mod.blt
    have hgl := I1.mod.glob.keeps I1.bk
    have hbl := hb1.keeps I1.bk
    obtain ⟨hp, g, dr, tk, os⟩ := s1
    exact wpAny_call (err_made1 T I1.kIn hlim hgl hbl hsu ((hb2 _ (by decide)).trans FL.boot_super) (by have := hr.dp; omega) fun h' tk' e d M => made_inv I1 M rv q1)⟩
theorem pe_mkE0 {x : Str} {p pos : Pos} {k : Nat} (T : ErrTxt X.prog X.K C fI) (hr : Room k X.A) (gC : X.mg x = some (.ref C)) (hsu : X.mg "super" = none) (hg : Gl X x := by rfl) (hdb : (x == ("__debug__" : Str)) = false := by decide) :
    PE X (.Call (.Name x p) [] [] pos) (fun σ H1 Q => ∀ e d, e ≠ d → H1 e = none → H1 d = none → Q (.ref e) (upd (upd H1 d (.xd [("value", .non)])) e (ExA (.ref C) (some d) e))) := ⟨fun pins s σ H1 Q I1 q1 => by
  refine wpAny_Call_Name_kw (ld_glob I1 hg gC ?_ hdb)
  refine PySem.W.callWith_K0 I1.kIn T.kC ?_
  have hlim := I1.nolimit
  obtain ⟨mb, hb1, hb2⟩ := I1.mod.blt
  have hgl := I1.mod.glob.keeps I1.bk
  have hbl := hb1.keeps I1.bk
  have hk := I1.kIn
  obtain ⟨hp, g, dr, tk, os⟩ := s
  exact wpAny_call (err_made0 T hk hlim hgl hbl hsu ((hb2 _ (by decide)).trans FL.boot_super) (by have := hr.dp; omega) fun h' tk' e d M => made_inv I1 M (show RelV V.non Value.none from rfl) q1)⟩
theorem pe_mkEK {kws : List Keyword} {ta : TA} {x : Str} {p pos : Pos} {k : Nat} (T : ErrTxt X.prog X.K C fI) (hr : Room k X.A) (gC : X.mg x = some (.ref C)) (hsu : X.mg "super" = none) (ha : PK X kws ta) (hg : Gl X x := by rfl) (hdb : (x == ("__debug__" : Str)) = false := by decide)
    (hall : ((backToKw pos (keywordEach kws X.env)).all fun x => x.fst.isSome) = true := by rfl) (hks : List.filterMap (fun x => x.fst) (backToKw pos (keywordEach kws X.env)) = [("value" : Str)] := by rfl)
    (hpl : (((backTo pos (starEach [] X.env)).any fun x => x.fst) || (backToKw pos (keywordEach kws X.env)).any fun x => x.fst.isNone) = false := by rfl) :
    PE X (.Call (.Name x p) [] kws pos) (fun σ H Q => ta σ H fun vs H1 => ∃ v, vs = [v] ∧ ∀ e d, e ≠ d → H1 e = none → H1 d = none → Q (.ref e) (upd (upd H1 d (.xd [("value", v)])) e (ExA (.ref C) (some d) e))) := ⟨fun pins s σ H Q I h => by
  refine wpAny_Call_Name_kw (ld_glob I hg gC ?_ hdb)
  refine PySem.W.callWith_KW0 (h₀ := X.base) I.ok.mod.kin T.kC hall ?_ hpl
  refine thn (ha.run pos pins s σ H _ I h) fun us s1 ⟨vs, H1, I1, r1, v, ev, q1⟩ => ⟨I1.kIn, ?_⟩
  subst ev
  rw [hks]
  cases r1 with
  | cons rv rn =>
    rename_i v' us'
    cases rn
    have hlim := I1.nolimit
    obtain ⟨mb, hb1, hb2⟩ := I1.mod.blt
    have hgl := I1.mod.glob.keeps I1.bk
    have hbl := hb1.keeps I1.bk
    obtain ⟨hp, g, dr, tk, os⟩ := s1
    exact wpAny_call (err_madeK T I1.kIn hlim hgl hbl hsu ((hb2 _ (by decide)).trans FL.boot_super) (by have := hr.dp; omega) fun h' tk' e d M => made_inv I1 M rv q1)⟩
end
end
end FL

set_option Elab.async false
set_option linter.all false
set_option maxRecDepth 100000
set_option maxHeartbeats 1000000
namespace FL
namespace Pl
section
open PySem PySem.W PySem.Calls PyProof.Rows PySem.HandSPX
/-! ### an own error: super().__init__(value); self.value = value -/
def iA (p1 p2 pd : Pos) : Arguments := { posonlyargs := [], args := [{ arg := "self", annotation := none, pos := p1 }, { arg := "place", annotation := none, pos := p2 }], vararg := none, kwonlyargs := [], kw_defaults := [], kwarg := none, defaults := [.Constant .none 0 pd] }
def iB (q1 q2 q3 q4 q5 q6 q7 q8 q9 qa : Pos) : List Stmt := [.Expr (.Call (.Attribute (.Call (.Name "super" q1) [] [] q2) "__init__" q3) [.Name "place" q4] [] q5) q6, .Assign [.Attribute (.Name "self" q7) "place" q8] (.Name "place" q9) qa]
def iS : Scope := { kind := .function, names := [(PySem.Str.ofString "self", .local), (PySem.Str.ofString "place", .local), (PySem.Str.ofString "__class__", .free), (PySem.Str.ofString "super", .globalImplicit)], isGenerator := false, isCoroutine := false, more := [] }
theorem iS_c : ∀ y ∈ iS.names, y.2 ≠ .cell := by decide +kernel
theorem iS_sup : iS.names.lookup ("super" : Str) = some .globalImplicit := by decide +kernel
theorem iS_cls : iS.names.lookup ("__class__" : Str) = some .free := by decide +kernel
theorem iS_self : iS.names.lookup ("self" : Str) = some .local := by decide +kernel
theorem iS_val : iS.names.lookup ("place" : Str) = some .local := by decide +kernel
theorem err_binds {s : Shared} {qual : Str} {p1 p2 pd : Pos} {body : List Stmt} {Td : Addr} {kV doc pm cdv ct : Value} {an : Option Addr} {cc : Addr} {oT : Obj} {n : Nat} {a v : Value} (hT : s.heap.get? Td = some oT) (hd : oT.data = .seq #[.none] n) :
    BindsTo s (ksFn "__init__" qual (iA p1 p2 pd) body iS (.ref Td) kV doc pm an cdv ct cc) ⟨[a, v], []⟩ [("self", a), ("place", v)] := by
  intro M A E Q h
  have e : ∃ k, bindArgs (ksFn "__init__" qual (iA p1 p2 pd) body iS (.ref Td) kV doc pm an cdv ct cc) ⟨[a, v], []⟩ = seqItems? (.ref Td) >>= k ∧ k (some #[.none]) = pure ([("self", a), ("place", v)] : List (Str × Value)) := ⟨_, rfl, by first | with_unfolding_all rfl | kernel_rfl⟩
  obtain ⟨k, e1, e2⟩ := e
  rw [e1]
  exact wpAny_bind (wpAny_seqItems hT hd (wpAny_of_eq e2 h))
theorem iS_l (a b : Value) : ∀ y ∈ ([("self", a), ("place", b)] : List (Str × Value)), iS.names.lookup y.1 = some .local := by
  intro y hy
  have e : y = (("self" : Str), a) ∨ y = (("place" : Str), b) := by simpa using hy
  rcases e with e | e
  · subst e
    show iS.names.lookup ("self" : Str) = some .local
    decide +kernel
  · subst e
    show iS.names.lookup ("place" : Str) = some .local
    decide +kernel
def veB : List Value := [.type "ValueError", .type "Exception", .type "BaseException", .type "object"]
theorem ev_sup (env : Env) (q1 q2 q4 : Pos) (apos pos : Pos) (h : (apos.endLine == pos.line) = true) : eval (.Call (.Attribute (.Call (.Name "super" q1) [] [] q2) "__init__" apos) [.Name "place" q4] [] pos) env = (do
          let ov ← attributeBase (.Call (.Name "super" q1) [] [] q2) "__init__" env (eval (.Call (.Name "super" q1) [] [] q2) env)
          standAt apos.atName
          let __x ← holding [ov] (getMethod ov "__init__" (do
            let b ← importBound (.Call (.Name "super" q1) [] [] q2) env
            pure (b.getD true)))
          match __x with
            | (f, first) => callWith pos f first (backTo pos (starEach [.Name "place" q4] env)) []) := by
  show (do
          let ov ← attributeBase (.Call (.Name "super" q1) [] [] q2) "__init__" env (eval (.Call (.Name "super" q1) [] [] q2) env)
          standAt apos.atName
          methodCall (.Call (.Name "super" q1) [] [] q2) "__init__" apos pos env ov 1 (backTo pos (starEach [.Name "place" q4] env)) []) = _
  have e : ∀ ov, methodCall (.Call (.Name "super" q1) [] [] q2) "__init__" apos pos env ov 1 (backTo pos (starEach [.Name "place" q4] env)) [] = (do
          let __x ← holding [ov] (getMethod ov "__init__" (do
            let b ← importBound (.Call (.Name "super" q1) [] [] q2) env
            pure (b.getD true)))
          match __x with
            | (f, first) => callWith pos f first (backTo pos (starEach [.Name "place" q4] env)) []) := fun ov => by
    have f : methodCallForm 1 (backTo pos (starEach [.Name "place" q4] env)) [] = true := rfl
    unfold methodCall methodCallPos
    rw [f, h]
    rfl
  simp only [e]

/-- what the written part says of such a class -/
structure ErrTxt (prog : Program) (K : Frag) (C fI : Addr) : Prop where
  cls : ∃ nm q N bs bm sn sub ab col dd k0 k1 k2 k3 k5, K.lookup C = some (excClassObj nm q C N bs bm true sn sub ab col dd k0 k1 k2 k3 k5 "ValueError.__new__") ∧ refsVE bm = true
  sa : findIn K (.ref C) "__setattr__" = some (some (.builtin "object.__setattr__"))
  ga : findIn K (.ref C) "__getattribute__" = some (some (.builtin "BaseException.__getattribute__"))
  gg : findIn K (.ref C) "__getattr__" = some none
  noN : findIn K (.ref C) "place" = some none
  iC : findIn K (.ref C) "__init__" = some (some (.ref fI))
  tC : typeIn K (.ref fI) = some (.type "function")
  kC : keepIn K (.ref C) = true
  exC : subIn K (.ref C) (.type "BaseException") = some true
  tyC : typeIn K (.ref C) = some (.type "type")
  hdC : hasDictIn K C = true
  xi : excInitIn K C veB "ValueError.__new__" = true
  sup : ks_superIn K C C "__init__" = some (some (.builtin "ValueError.__init__"))
  sV : subIn K (.ref C) (.type "ValueError") = some true
  nt : nsIn K cStatics "thirdparty.any" = some none
  mC : mroIn K C (.ref C) = some true
  fn : ∃ (oc : Value) (od : Option Addr) (Td : Addr) (oT : Obj) (nT : Nat) (kV doc pm : Value) (an : Option Addr) (cda : Addr) (ct : Value) (osl : Array (Option Value)) (p1 p2 q1 q2 q3 q4 q5 q6 q7 q8 q9 qa : Pos) (pd : Pos) (qual : Str) (cc : Addr) (ccl : Value) (cdd : Option Addr) (vs : Array Value) (ccs : Array (Option Value)) (file : Str) (tf : Tok) (cl : Value) (cld : Option Addr) (csl : Array (Option Value)),
    K.lookup fI = some ⟨oc, od, .func (ksFn "__init__" qual (iA p1 p2 pd) (iB q1 q2 q3 q4 q5 q6 q7 q8 q9 qa) iS (.ref Td) kV doc pm an (.ref cda) ct cc), osl⟩ ∧ codeIn K (.ref cda) qual = true ∧ K.lookup Td = some oT ∧ oT.data = .seq #[.none] nT ∧ (q3.endLine == q5.line) = true ∧
    K.lookup cda = some ⟨ccl, cdd, .fields vs, ccs⟩ ∧ vs[2]? = some (.str file tf) ∧ (prog.main.file == file) = true ∧ K.lookup cc = some ⟨cl, cld, .cell (some (.ref C)), csl⟩
  top : (prog.main.scope.names.lookup ("super" : Str)).isSome = false
/-- what __init__ leaves of a fresh exception at x -/
structure InitEnd (h h' : Heap) (x C dx t1 : Addr) (v : Value) : Prop where
  keep : ∀ b o, b ≠ x → h.get? b = some o → h'.get? b = some o
  obj : h'.get? x = some { cls := .ref C, dict := some dx, data := .fields #[.ref t1, .none, .none, .none, .bool false, .none] }
  dbig : h.objs.size ≤ dx
  dne : dx ≠ x
  ns : h'.Ns1 dx (fun y => if y = "place" then some v else none)
/-- what stands of a made error -/
structure OwnMade (h h' : Heap) (e C d : Addr) (v : Value) : Prop where
  keep : ∀ b o, h.get? b = some o → h'.get? b = some o
  new : h.objs.size ≤ e
  obj : ∃ oe vs, h'.get? e = some oe ∧ oe.cls = Value.ref C ∧ oe.dict = some d ∧ oe.data = .fields vs ∧ vs[1]? = some .none
  dbig : h.objs.size ≤ d
  dne : d ≠ e
  ns : h'.Ns1 d (fun y => if y = "place" then some v else none)
section
variable {prog : Program} {w : World} {A : Around} {E : Value → Shared → Prop} {R : Result → Shared → Prop} {s : Shared} {K : Frag} {mg mb : Str → Option Value} {C fI : Addr}
theorem ldE {M : Model} {A : Around} {E : Value → Shared → Prop} {s : Shared} {name : Str} {scope : Scope} {L a : Addr} {cd : Value} {cc : Addr} {m : Str → Option Value} {x : Str} {pos : Pos} {v : Value} {Q : Value → Shared → Prop} (hn : s.heap.Ns L m) (hv : m x = some v) (h : Q v s)
    (hk : scope.kind = .function := by rfl) (hl : (ksEnv name scope L a cd cc).kindOf x = some .local := by rfl) (hd : (x == ("__debug__" : Str)) = false := by decide) :
    wpAny M A (eval (.Name x pos) (ksEnv name scope L a cd cc)) Q E s := wpAny_Name (wpAny_loadName_local hk hl hn hv h) hd
theorem err_initA (T : ErrTxt prog K C fI) {x t0 : Addr} {v : Value} {ar : Args} (hbd : ∀ {qual : Str} {p1 p2 pd : Pos} {body : List Stmt} {Td : Addr} {kV doc pm cdv ct : Value} {an : Option Addr} {cc : Addr} {oT : Obj} {n : Nat}, s.heap.get? Td = some oT → oT.data = .seq #[.none] n → BindsTo s (ksFn "__init__" qual (iA p1 p2 pd) body iS (.ref Td) kV doc pm an cdv ct cc) ar [("self", .ref x), ("place", v)]) (X : K.In s.heap) (hlim : s.heap.NoLimit) (hg : s.heap.Ns mainGlobals mg) (hb : s.heap.Ns builtinsNs mb) (hms : mg "super" = none) (hbs : mb "super" = some (.type "super"))
    (hx : s.heap.get? x = some (excO C t0)) (hnx : K.lookup x = none) (hroom : A.depth < recursionLimit)
    (hq : ∀ h' tk dx t1, InitEnd s.heap h' x C dx t1 v → R (.ok (.ret .none)) { s with heap := h', toks := tk }) :
    codeAny (model prog w) A (.call (.ref fI) ar) R s := by
  obtain ⟨oc, od, Td, oT, nT, kV, doc, pm, an, cda, ct, osl, p1, p2, q1, q2, q3, q4, q5, q6, q7, q8, q9, qa, pd, qual, cc, ccl, cdd, vs, ccs, file, tf, cl, cld, csl, ho, hcd, hTd, hTs, hqq, hcda, hvs, hfile, hcell⟩ := T.fn
  obtain ⟨nm, q, N, bs, bm, sn, sub, ab, col, dd2, k0, k1, k2, k3, k5, hC, hbm⟩ := T.cls
  have hcl : clsIn K C = some { name := nm, bases := bs, mro := .ref C :: bm, ns := N, qualname := q, hasDict := true, slotNames := sn, subclasses := sub, abstract := ab, collection := col, hasDel := false } := by unfold clsIn; rw [hC] <;> rfl
  refine ks_codeAny_call_defAt (binds := [("self", .ref x), ("place", v)]) hroom (X _ _ ho) rfl hlim (codeRec_of X hcd) rfl (hbd (X _ _ hTd) hTs) iS_c (iS_l _ _) (fun h₁ hn k => ?_) rfl rfl rfl
  have hxL : s.heap.objs.size ≠ x := Nat.ne_of_gt (Heap.lt_size hx)
  -- the exception is hidden in what stands
  have F1 : Fr (hideAll s.heap [x]) s.heap.objs.size h₁ (fun y => List.lookup y ([("self", .ref x), ("place", v)] : List (Str × Value)).reverse) := ⟨hn, fun b o e => k b o (of_hideAll _ e), Nat.le_of_eq (hideAll_size _ _)⟩
  have N1 : News (hideAll s.heap [x]) s.heap.objs.size h₁ [(x, excObj C t0 none .none)] := fun p hp => by
    have e : p = (x, excObj C t0 none .none) := by simpa using hp
    subst e
    exact ⟨k _ _ hx, hxL.symm, hideAll_none _ (by simp)⟩
  have Xg : K.In (hideAll s.heap [x]) := fun b o e => hideAll_get [x] (X _ _ e) (fun z => by
    have z' : b = x := by simpa using z
    subst z'
    rw [hnx] at e
    cases e)
  have X1 : K.In h₁ := X.keeps k
  have kS : ∀ (nm : Str), (ksEnv qual iS s.heap.objs.size fI (.ref cda) cc).kindOf nm = iS.names.lookup nm := fun nm => rfl
  refine ks_wpAt_execs_cons (ks_wpAt_Expr_any (ks_wpAt_MethodCall (pl := do
            let b ← importBound (.Call (.Name "super" q1) [] [] q2) (ksEnv qual iS s.heap.objs.size fI (.ref cda) cc)
            pure (b.getD true)) ?_ (ev_sup _ _ _ _ _ _ hqq)) rfl rfl)
  obtain ⟨oD, hD1, hD2⟩ : ∃ oD, h₁.get? C = some oD ∧ oD.data = .cls { name := nm, bases := bs, mro := .ref C :: bm, ns := N, qualname := q, hasDict := true, slotNames := sn, subclasses := sub, abstract := ab, collection := col, hasDel := false } := ⟨_, X1 _ _ hC, rfl⟩
  refine ks_wpAt_super_base (f := fI) (cc := cda) (ar := { arg := "self", annotation := none, pos := p1 }) iS_sup iS_cls (by decide +kernel) rfl (X1 _ _ ho) rfl rfl rfl (X1 _ _ hcda) rfl hvs hfile T.top ?_
  refine ks_loadName_global rfl iS_sup (Calls.loadGlobal_builtin (hg.keeps k) hms (hb.keeps k) hbs ⟨rfl, ?_⟩)
  refine wpAny_loadName_free (c := cc) rfl iS_cls rfl ⟨_, X1 _ _ hcell, rfl⟩ ?_
  refine wpAny_loadName_local rfl iS_self hn (show List.lookup ("self" : Str) ([("self", .ref x), ("place", v)] : List (Str × Value)).reverse = some (.ref x) by rfl) ?_
  refine ks_wpAny_isType_cls hD1 hD2 ⟨rfl, ?_⟩
  refine ks_wpAny_call_super hD1 hD2 (k _ _ hx) rfl (fun c e => by cases e) (looks_mroIn X1 T.mC) fun h₂ e₂ k₂ => ?_
  obtain ⟨F2, N2, l2⟩ := ks_newsPush (s := { heap := h₁, gens := s.gens, drawn := s.drawn, toks := s.toks + 2, os := s.os }) F1 N1 rfl e₂ k₂
  refine kxs_method kxs_ValueError F2 Xg N2 (x := x) (C := C) (D := C) (ox := excO C t0) (odx := none) (List.mem_cons_self ..) ⟨(N2 _ (List.mem_cons_of_mem _ (List.mem_cons_self ..))).1, rfl, rfl, trivial⟩ T.nt T.sup T.sV (by decide +kernel) fun u h₃ F3 N3 l3 => ?_
  refine kxs_callWith1 N3 (u := u) (i := "ValueError.__init__") (List.mem_cons_self ..) ?_ rfl rfl
  have nso : (h₁.objs.size : Addr) ≠ x := Ne.symm (Nat.ne_of_lt (l2 _ (List.mem_cons_self ..)))
  have nu : u ≠ x := Ne.symm (Nat.ne_of_lt (l3 (x, excObj C t0 none .none) (List.mem_cons_of_mem _ (List.mem_cons_self ..))))
  refine PyProof.Rows.spliced_more (ldE (v := v) F3.ns (by rfl) (PyProof.Rows.spliced_none ⟨kxs_at N3 (List.mem_cons_self ..), ?_⟩) rfl iS_val) rfl
  refine kxs_call F3 Xg N3 F.excBase_ValueError T.xi (List.mem_cons_self ..) (.tail nu (.tail nso (.head fun p hp => nomatch hp))) (one_sz v) fun t1 h₄ F4 N4 l4 => ?_
  have hx4 : h₄.get? x = some (excO C t1) := (N4 (x, excObj C t1 none .none) (by simp)).1
  have X4 : K.In h₄ := Xg.keeps F4.keep
  refine wpAt_of_wpAny (wpAny_execs_cons (plainObj_wpAny_Assign_Attribute ?_))
  refine ldE (v := v) F4.ns (by rfl) (ldE (v := .ref x) F4.ns (by rfl) ?_ rfl iS_self) rfl iS_val
  refine set_plain X4 (ox := excO C t1) (od := none) ⟨hx4, rfl, rfl, trivial⟩ T.sa ?_
  refine exc_osa X4 hx4 hcl (show refsVE (.ref C :: bm) = true from hbm) rfl T.noN (fun h₅ tk₅ dx k₅ dn dne hx₅ hn₅ => ?_)
  have old : ∀ b o, b ≠ x → s.heap.get? b = some o → h₅.get? b = some o := fun b o hb e => k₅ b o hb (F4.keep b o (hideAll_get [x] e (by simpa using hb)))
  have sz : s.heap.objs.size ≤ dx := by
    have q : s.heap.objs.size < h₄.objs.size := F4.ns.lt
    exact Nat.le_of_lt (Nat.lt_of_lt_of_le q dn)
  exact wpAny_execs_nil (hq h₅ tk₅ dx t1 ⟨old, hx₅, sz, dne, hn₅⟩)
end
theorem err_binds0 {s : Shared} {qual : Str} {p1 p2 pd : Pos} {body : List Stmt} {Td : Addr} {kV doc pm cdv ct : Value} {an : Option Addr} {cc : Addr} {oT : Obj} {n : Nat} {a : Value} (hT : s.heap.get? Td = some oT) (hd : oT.data = .seq #[.none] n) :
    BindsTo s (ksFn "__init__" qual (iA p1 p2 pd) body iS (.ref Td) kV doc pm an cdv ct cc) ⟨[a], []⟩ [("self", a), ("place", .none)] := by
  intro M A E Q h
  have e : ∃ k, bindArgs (ksFn "__init__" qual (iA p1 p2 pd) body iS (.ref Td) kV doc pm an cdv ct cc) ⟨[a], []⟩ = seqItems? (.ref Td) >>= k ∧ k (some #[.none]) = pure ([("self", a), ("place", .none)] : List (Str × Value)) := ⟨_, rfl, by first | with_unfolding_all rfl | kernel_rfl⟩
  obtain ⟨k, e1, e2⟩ := e
  rw [e1]
  exact wpAny_bind (wpAny_seqItems hT hd (wpAny_of_eq e2 h))
theorem err_bindsK {s : Shared} {qual : Str} {p1 p2 pd : Pos} {body : List Stmt} {Td : Addr} {kV doc pm cdv ct : Value} {an : Option Addr} {cc : Addr} {oT : Obj} {n : Nat} {a v : Value} (hT : s.heap.get? Td = some oT) (hd : oT.data = .seq #[.none] n) :
    BindsTo s (ksFn "__init__" qual (iA p1 p2 pd) body iS (.ref Td) kV doc pm an cdv ct cc) ⟨[a], [("place", v)]⟩ [("self", a), ("place", v)] := by
  intro M A E Q h
  have e : ∃ k, bindArgs (ksFn "__init__" qual (iA p1 p2 pd) body iS (.ref Td) kV doc pm an cdv ct cc) ⟨[a], [("place", v)]⟩ = seqItems? (.ref Td) >>= k ∧ k (some #[.none]) = pure ([("self", a), ("place", v)] : List (Str × Value)) := ⟨_, rfl, by first | with_unfolding_all rfl | kernel_rfl⟩
  obtain ⟨k, e1, e2⟩ := e
  rw [e1]
  exact wpAny_bind (wpAny_seqItems hT hd (wpAny_of_eq e2 h))
section
variable {prog : Program} {w : World} {A : Around} {E : Value → Shared → Prop} {R : Result → Shared → Prop} {s : Shared} {K : Frag} {mg mb : Str → Option Value} {C fI : Addr}
theorem err_made1 (T : ErrTxt prog K C fI) {v : Value} (X : K.In s.heap) (hlim : s.heap.NoLimit) (hg : s.heap.Ns mainGlobals mg) (hb : s.heap.Ns builtinsNs mb) (hms : mg "super" = none) (hbs : mb "super" = some (.type "super")) (hroom : A.depth + 1 < recursionLimit)
    (hq : ∀ h' tk e d, OwnMade s.heap h' e C d v → R (.ok (.ret (.ref e))) { s with heap := h', toks := tk }) :
    codeAny (model prog w) A (.call (.ref C) ⟨[v], []⟩) R s := by
  obtain ⟨nm, q, N, bs, bm, sn, sub, ab, col, dd, k0, k1, k2, k3, k5, hC, hbm⟩ := T.cls
  obtain ⟨hp, g, dr, tk, os⟩ := s
  have k : ∀ b o, hp.get? b = some o → ((hp.push (kdv_tup [v])).push (excO C hp.objs.size)).get? b = some o := fun b o e => Heap.get?_push_of_some _ (Heap.get?_push_of_some _ e)
  have hget : ((hp.push (kdv_tup [v])).push (excO C hp.objs.size)).get? (hp.objs.size + 1) = some (excO C hp.objs.size) := by heap_get
  have hnx : K.lookup (hp.objs.size + 1) = none := by
    cases e : K.lookup (hp.objs.size + 1) with
    | none => rfl
    | some o =>
      have z : hp.get? (hp.objs.size + 1) = some o := X _ _ e
      exact absurd (Nat.lt_of_succ_lt (Heap.lt_size z)) (Nat.lt_irrefl _)
  refine call_own F.excBase_ValueError (fun X => refsVE_contains X bm hbm) (X _ _ hC) (looks_findIn X T.iC) (fun self => bind_fn X self T.tC) (one_sz v) ?_
  refine err_initA (s := ⟨(hp.push (kdv_tup [v])).push (excO C hp.objs.size), g, dr, tk, os⟩) T (fun z y => err_binds z y) (X.keeps k) (hlim.keeps k) (hg.keeps k) (hb.keeps k) hms hbs hget hnx ?_ fun h' tk' dx t1 ⟨k', hx, dn, dne, hns⟩ => ?_
  · show A.depth + 1 < recursionLimit
    exact hroom
  · have old : ∀ b o, hp.get? b = some o → h'.get? b = some o := fun b o e => k' b o (Nat.ne_of_lt (Nat.lt_succ_of_lt (Heap.lt_size e))) (k b o e)
    have z : hp.objs.size + 1 + 1 ≤ dx := by
      first
        | (simpa only [Heap.size_push] using dn)
        | exact dn
        | (have q := dn; rw [Heap.size_push, Heap.size_push] at q; exact q)
    exact ⟨rfl, hq h' tk' (hp.objs.size + 1) dx ⟨old, Nat.le_succ _, ⟨_, _, hx, rfl, rfl, rfl, rfl⟩, Nat.le_trans (Nat.le_trans (Nat.le_succ _) (Nat.le_succ _)) z, dne, hns⟩⟩
theorem err_made0 (T : ErrTxt prog K C fI) (X : K.In s.heap) (hlim : s.heap.NoLimit) (hg : s.heap.Ns mainGlobals mg) (hb : s.heap.Ns builtinsNs mb) (hms : mg "super" = none) (hbs : mb "super" = some (.type "super")) (hroom : A.depth + 1 < recursionLimit)
    (hq : ∀ h' tk e d, OwnMade s.heap h' e C d .none → R (.ok (.ret (.ref e))) { s with heap := h', toks := tk }) :
    codeAny (model prog w) A (.call (.ref C) ⟨[], []⟩) R s := by
  obtain ⟨nm, q, N, bs, bm, sn, sub, ab, col, dd, k0, k1, k2, k3, k5, hC, hbm⟩ := T.cls
  obtain ⟨hp, g, dr, tk, os⟩ := s
  have k : ∀ b o, hp.get? b = some o → ((hp.push (kdv_tup [])).push (excO C hp.objs.size)).get? b = some o := fun b o e => Heap.get?_push_of_some _ (Heap.get?_push_of_some _ e)
  have hget : ((hp.push (kdv_tup [])).push (excO C hp.objs.size)).get? (hp.objs.size + 1) = some (excO C hp.objs.size) := by heap_get
  have hnx : K.lookup (hp.objs.size + 1) = none := by
    cases e : K.lookup (hp.objs.size + 1) with
    | none => rfl
    | some o =>
      have z : hp.get? (hp.objs.size + 1) = some o := X _ _ e
      exact absurd (Nat.lt_of_succ_lt (Heap.lt_size z)) (Nat.lt_irrefl _)
  refine call_own F.excBase_ValueError (fun X => refsVE_contains X bm hbm) (X _ _ hC) (looks_findIn X T.iC) (fun self => bind_fn X self T.tC) (by rw [sizeLine_eq]; exact Nat.zero_le _) ?_
  refine err_initA (s := ⟨(hp.push (kdv_tup [])).push (excO C hp.objs.size), g, dr, tk, os⟩) T (fun z y => err_binds0 z y) (X.keeps k) (hlim.keeps k) (hg.keeps k) (hb.keeps k) hms hbs hget hnx ?_ fun h' tk' dx t1 ⟨k', hx, dn, dne, hns⟩ => ?_
  · show A.depth + 1 < recursionLimit
    exact hroom
  · have old : ∀ b o, hp.get? b = some o → h'.get? b = some o := fun b o e => k' b o (Nat.ne_of_lt (Nat.lt_succ_of_lt (Heap.lt_size e))) (k b o e)
    have z : hp.objs.size + 1 + 1 ≤ dx := by
      first
        | (simpa only [Heap.size_push] using dn)
        | exact dn
        | (have q := dn; rw [Heap.size_push, Heap.size_push] at q; exact q)
    exact ⟨rfl, hq h' tk' (hp.objs.size + 1) dx ⟨old, Nat.le_succ _, ⟨_, _, hx, rfl, rfl, rfl, rfl⟩, Nat.le_trans (Nat.le_trans (Nat.le_succ _) (Nat.le_succ _)) z, dne, hns⟩⟩
theorem err_madeK (T : ErrTxt prog K C fI) {v : Value} (X : K.In s.heap) (hlim : s.heap.NoLimit) (hg : s.heap.Ns mainGlobals mg) (hb : s.heap.Ns builtinsNs mb) (hms : mg "super" = none) (hbs : mb "super" = some (.type "super")) (hroom : A.depth + 1 < recursionLimit)
    (hq : ∀ h' tk e d, OwnMade s.heap h' e C d v → R (.ok (.ret (.ref e))) { s with heap := h', toks := tk }) :
    codeAny (model prog w) A (.call (.ref C) ⟨[], [("place", v)]⟩) R s := by
  obtain ⟨nm, q, N, bs, bm, sn, sub, ab, col, dd, k0, k1, k2, k3, k5, hC, hbm⟩ := T.cls
  obtain ⟨hp, g, dr, tk, os⟩ := s
  have k : ∀ b o, hp.get? b = some o → ((hp.push (kdv_tup [])).push (excO C hp.objs.size)).get? b = some o := fun b o e => Heap.get?_push_of_some _ (Heap.get?_push_of_some _ e)
  have hget : ((hp.push (kdv_tup [])).push (excO C hp.objs.size)).get? (hp.objs.size + 1) = some (excO C hp.objs.size) := by heap_get
  have hnx : K.lookup (hp.objs.size + 1) = none := by
    cases e : K.lookup (hp.objs.size + 1) with
    | none => rfl
    | some o =>
      have z : hp.get? (hp.objs.size + 1) = some o := X _ _ e
      exact absurd (Nat.lt_of_succ_lt (Heap.lt_size z)) (Nat.lt_irrefl _)
  refine kw_call F.excBase_ValueError (fun X => refsVE_contains X bm hbm) (X _ _ hC) (looks_findIn X T.iC) (fun self => bind_fn X self T.tC) ?_
  refine err_initA (s := ⟨(hp.push (kdv_tup [])).push (excO C hp.objs.size), g, dr, tk, os⟩) T (fun z y => err_bindsK z y) (X.keeps k) (hlim.keeps k) (hg.keeps k) (hb.keeps k) hms hbs hget hnx ?_ fun h' tk' dx t1 ⟨k', hx, dn, dne, hns⟩ => ?_
  · show A.depth + 1 < recursionLimit
    exact hroom
  · have old : ∀ b o, hp.get? b = some o → h'.get? b = some o := fun b o e => k' b o (Nat.ne_of_lt (Nat.lt_succ_of_lt (Heap.lt_size e))) (k b o e)
    have z : hp.objs.size + 1 + 1 ≤ dx := by
      first
        | (simpa only [Heap.size_push] using dn)
        | exact dn
        | (have q := dn; rw [Heap.size_push, Heap.size_push] at q; exact q)
    exact ⟨rfl, hq h' tk' (hp.objs.size + 1) dx ⟨old, Nat.le_succ _, ⟨_, _, hx, rfl, rfl, rfl, rfl⟩, Nat.le_trans (Nat.le_trans (Nat.le_succ _) (Nat.le_succ _)) z, dne, hns⟩⟩
end

open PySem.Spec L2
theorem relO_fld {v : V} {v' : Value} (r : RelV v v') (f : Str) : RelO (List.lookup f [(("place" : Str), v)]) (if f = "place" then some v' else none) := by
  by_cases hw : f = "place"
  · subst hw
    rw [if_pos rfl]
    have q : List.lookup ("place" : Str) [(("place" : Str), v)] = some v := by simp [List.lookup]
    rw [q]
    exact r
  · rw [if_neg hw]
    have qw : (f == ("place" : Str)) = false := by simpa using hw
    have q2 : List.lookup f [(("place" : Str), v)] = none := by simp [List.lookup, qw]
    rw [q2]
    trivial
section
variable {X : Cx} {C fI : Addr}
/-- a fresh error among what is followed -/
theorem made_inv {pins : List (Addr × Obj)} {σ : L2.St} {H1 : Hp} {Q : VK} {hp h' : Heap} {g : Array GenState} {dr : Drawn} {tk tk' : Nat} {os : OsState} {e d : Addr} {v : V} {v' : Value} (I1 : Inv X pins σ H1 ⟨hp, g, dr, tk, os⟩) (M : OwnMade hp h' e C d v') (rv : RelV v v')
    (q : ∀ e d, e ≠ d → H1 e = none → H1 d = none → Q (.ref e) (upd (upd H1 d (.xd [("place", v)])) e (ExA (.ref C) (some d) e))) : EP X pins σ Q (.ref e) ⟨h', g, dr, tk', os⟩ := by
  obtain ⟨oe, fv, hoe, hc, hd, hdat, h1⟩ := M.obj
  have hns := M.ns
  obtain ⟨G', g1, g2⟩ := restrict h' fun b => decide (b ≠ e)
  have gk : ∀ b, b ≠ e → G'.get? b = h'.get? b := fun b hb => g1 b (decide_eq_true hb)
  have ge : G'.get? e = none := g2 e (by simp)
  have old : ∀ b o, hp.get? b = some o → G'.get? b = some o := fun b o q => (gk b (Nat.ne_of_lt (Nat.lt_of_lt_of_le (Heap.lt_size q) M.new))).trans (M.keep b o q)
  have ob : ObjOk X.prog X.w (upd H1 d (.xd [(("place" : Str), v)])) G' d (.xd [(("place" : Str), v)]) := ⟨_, hns.at (fun o q => (gk d M.dne).trans q), fun f => relO_fld rv f⟩
  have J : Inv X pins σ (upd H1 d (.xd [(("place" : Str), v)])) ⟨G', g, dr, tk', os⟩ := I1.laid (t' := tk') old M.dbig ob
  have fe : H1 e = none := I1.hok.fresh M.new
  have fd : H1 d = none := I1.hok.fresh M.dbig
  have up : ∀ b u, G'.get? b = some u → h'.get? b = some u := fun b u z => by
    by_cases hb : b = e
    · rw [hb, ge] at z
      cases z
    · exact (gk b hb).symm.trans z
  have hn : (upd H1 d (.xd [(("place" : Str), v)])) e = none := by rw [upd_ne (Ne.symm M.dne)]; exact fe
  have J2 : Inv X pins σ (upd (upd H1 d (.xd [(("place" : Str), v)])) e (ExA (.ref C) (some d) e)) ⟨h', g, dr, tk', os⟩ := J.laidN (h' := h') (t' := tk') up ge hn ⟨⟨oe, hoe, ⟨hc, hd⟩, fv, hdat⟩, ⟨oe, hoe⟩, fun h3 h4 ⟨o1, z1, z2, z3⟩ k => ⟨o1, k _ z1, z2, z3⟩⟩
  exact ⟨.ref e, _, J2, rfl, q e d (Ne.symm M.dne) fe fd⟩
theorem pe_mkE {a : Expr} {ta : TA} {x : Str} {p pos : Pos} {k : Nat} (T : ErrTxt X.prog X.K C fI) (hr : Room k X.A) (gC : X.mg x = some (.ref C)) (hsu : X.mg "super" = none) (ha : PA X [a] ta) (hg : Gl X x := by rfl) (hdb : (x == ("__debug__" : Str)) = false := by decide)
    (he : starEach (a :: []) X.env = (false, eval a X.env) :: starEach [] X.env := by rfl) (hpl : (backTo pos (starEach [] X.env)).any (·.1) = false := by rfl) :
    PE X (.Call (.Name x p) [a] [] pos) (fun σ H Q => ta σ H fun vs H1 => ∃ v, vs = [v] ∧ ∀ e d, e ≠ d → H1 e = none → H1 d = none → Q (.ref e) (upd (upd H1 d (.xd [("place", v)])) e (ExA (.ref C) (some d) e))) := ⟨fun pins s σ H Q I h => by
  refine wpAny_Call_Name_kw (ld_glob I hg gC ?_ hdb)
  refine PySem.W.callWith_K (h₀ := X.base) I.ok.mod.kin T.kC (thn (ha.run pos pins s σ H _ I h) fun us s1 hh => ?_) he hpl
  obtain ⟨vs, H1, I1, r1, v, ev, q1⟩ := hh
  subst ev
  refine ⟨I1.kIn, ?_⟩
  cases r1 with
  | cons rv rn =>
    rename_i v' us'
    cases rn
    show wpAny _ _ (call (.ref C) [v']) _ _ _
    have hlim := I1.nolimit
    obtain ⟨mb, hb1, hb2⟩ := I1.mod.blt
    have hgl := I1.mod.glob.keeps I1.bk
    have hbl := hb1.keeps I1.bk
    obtain ⟨hp, g, dr, tk, os⟩ := s1
    exact wpAny_call (err_made1 T I1.kIn hlim hgl hbl hsu ((hb2 _ (by decide)).trans FL.boot_super) (by have := hr.dp; omega) fun h' tk' e d M => made_inv I1 M rv q1)⟩
theorem pe_mkE0 {x : Str} {p pos : Pos} {k : Nat} (T : ErrTxt X.prog X.K C fI) (hr : Room k X.A) (gC : X.mg x = some (.ref C)) (hsu : X.mg "super" = none) (hg : Gl X x := by rfl) (hdb : (x == ("__debug__" : Str)) = false := by decide) :
    PE X (.Call (.Name x p) [] [] pos) (fun σ H1 Q => ∀ e d, e ≠ d → H1 e = none → H1 d = none → Q (.ref e) (upd (upd H1 d (.xd [("place", .non)])) e (ExA (.ref C) (some d) e))) := ⟨fun pins s σ H1 Q I1 q1 => by
  refine wpAny_Call_Name_kw (ld_glob I1 hg gC ?_ hdb)
  refine PySem.W.callWith_K0 I1.kIn T.kC ?_
  have hlim := I1.nolimit
  obtain ⟨mb, hb1, hb2⟩ := I1.mod.blt
  have hgl := I1.mod.glob.keeps I1.bk
  have hbl := hb1.keeps I1.bk
  have hk := I1.kIn
  obtain ⟨hp, g, dr, tk, os⟩ := s
  exact wpAny_call (err_made0 T hk hlim hgl hbl hsu ((hb2 _ (by decide)).trans FL.boot_super) (by have := hr.dp; omega) fun h' tk' e d M => made_inv I1 M (show RelV V.non Value.none from rfl) q1)⟩
theorem pe_mkEK {kws : List Keyword} {ta : TA} {x : Str} {p pos : Pos} {k : Nat} (T : ErrTxt X.prog X.K C fI) (hr : Room k X.A) (gC : X.mg x = some (.ref C)) (hsu : X.mg "super" = none) (ha : PK X kws ta) (hg : Gl X x := by rfl) (hdb : (x == ("__debug__" : Str)) = false := by decide)
    (hall : ((backToKw pos (keywordEach kws X.env)).all fun x => x.fst.isSome) = true := by rfl) (hks : List.filterMap (fun x => x.fst) (backToKw pos (keywordEach kws X.env)) = [("place" : Str)] := by rfl)
    (hpl : (((backTo pos (starEach [] X.env)).any fun x => x.fst) || (backToKw pos (keywordEach kws X.env)).any fun x => x.fst.isNone) = false := by rfl) :
    PE X (.Call (.Name x p) [] kws pos) (fun σ H Q => ta σ H fun vs H1 => ∃ v, vs = [v] ∧ ∀ e d, e ≠ d → H1 e = none → H1 d = none → Q (.ref e) (upd (upd H1 d (.xd [("place", v)])) e (ExA (.ref C) (some d) e))) := ⟨fun pins s σ H Q I h => by
  refine wpAny_Call_Name_kw (ld_glob I hg gC ?_ hdb)
  refine PySem.W.callWith_KW0 (h₀ := X.base) I.ok.mod.kin T.kC hall ?_ hpl
  refine thn (ha.run pos pins s σ H _ I h) fun us s1 ⟨vs, H1, I1, r1, v, ev, q1⟩ => ⟨I1.kIn, ?_⟩
  subst ev
  rw [hks]
  cases r1 with
  | cons rv rn =>
    rename_i v' us'
    cases rn
    have hlim := I1.nolimit
    obtain ⟨mb, hb1, hb2⟩ := I1.mod.blt
    have hgl := I1.mod.glob.keeps I1.bk
    have hbl := hb1.keeps I1.bk
    obtain ⟨hp, g, dr, tk, os⟩ := s1
    exact wpAny_call (err_madeK T I1.kIn hlim hgl hbl hsu ((hb2 _ (by decide)).trans FL.boot_super) (by have := hr.dp; omega) fun h' tk' e d M => made_inv I1 M rv q1)⟩
end
end
end Pl
end FL

set_option Elab.async false
set_option linter.all false
set_option maxRecDepth 100000
set_option maxHeartbeats 1000000
namespace FL
open PySem PySem.Spec PyProof.Rows L2
section
variable {T : Tx} {X : Cx} {W : WX}
/-! ### errors made as values -/
/-- C(e), C(value=e) -/
def mkE (c : Nat) (n : Str) (g : FA) : FE := fun ρ s => (g ρ s).bind fun xs s1 => match xs with
  | [.d v] => .ok (.d (.exc c [n] [v])) s1
  | _ => .stuck
/-- C() -/
def mkE0 (c : Nat) (n : Str) : FE := fun ρ s => .ok (.d (.exc c [n] [.non])) s
/-- C(), a class that adds nothing -/
def mkP (c : Nat) : FE := fun ρ s => .ok (.d (.exc c [] [])) s
theorem exc_fresh {st : L2.St} {w : Wd} {s : Sto} {H : Hp} {Q : VK} {c : Nat} {n : Str} {v : D} {u : V} {e d : Addr} (p : PostE T W st w (.ok (.d (.exc c [n] [v])) s) Q) (x : RX T w (.d v) u) (r : RS T w s H) (hed : e ≠ d) (he : H e = none) (hd : H d = none) : Q (.ref e) (upd (upd H d (.xd [(n, u)])) e (ExA (.ref (T.ct c)) (some d) e)) := by
  obtain ⟨l1, r1⟩ := r.laidG (o := .xd [(n, u)]) hd
  have he' : (upd H d (.xd [(n, u)])) e = none := by rw [upd_ne hed]; exact he
  obtain ⟨l2, r2⟩ := r1.laidG (o := ExA (.ref (T.ct c)) (some d) e) he'
  refine p _ (.ref e) _ (l1.trans l2) ?_ r2
  show R T _ (.exc c [n] [v]) (.ref e)
  unfold R
  refine ⟨e, some d, [(n, u)], rfl, upd_same, .inr ⟨d, rfl, ?_⟩, rfl, .one (RX.mono (x := .d v) (l1.trans l2) x)⟩
  show upd (upd w.G d (.xd [(n, u)])) e _ d = _
  rw [upd_ne (Ne.symm hed), upd_same]
theorem pf_mkE {a : Expr} {g : FA} {x : Str} {p pos : Pos} {k c : Nat} (C : Cn T X W k) (E : ∃ f, ErrTxt X.prog X.K (T.ct c) f) (gC : X.mg x = some (.ref (T.ct c))) (hsu : X.mg "super" = none) (ha : PFA T X W [a] g) (hg : Gl X x := by rfl) (hdb : (x == ("__debug__" : Str)) = false := by decide)
    (he : starEach (a :: []) X.env = (false, eval a X.env) :: starEach [] X.env := by rfl) (hpl : (backTo pos (starEach [] X.env)).any (·.1) = false := by rfl) : PF T X W (.Call (.Name x p) [a] [] pos) (mkE c "value" g) := by
  obtain ⟨fI, E⟩ := E
  refine PE.imp (pe_mkE E C.hr.room gC hsu ha hg hdb he hpl) fun st H Q ⟨w, ρ, s, e, q, p⟩ => rdA_mono (postE_bindL e q p) fun us H1 ⟨w1, xs, s1, l1, e1, x1, r1, p1⟩ => ?_
  split at p1
  · obtain ⟨u, rfl, x2⟩ := rxs1 x1
    exact ⟨u, rfl, fun e d h1 h2 h3 => exc_fresh p1 x2 r1 h1 h2 h3⟩
  · exact p1.elim
theorem pf_mkE0 {x : Str} {p pos : Pos} {k c : Nat} (C : Cn T X W k) (E : ∃ f, ErrTxt X.prog X.K (T.ct c) f) (gC : X.mg x = some (.ref (T.ct c))) (hsu : X.mg "super" = none) (hg : Gl X x := by rfl) (hdb : (x == ("__debug__" : Str)) = false := by decide) : PF T X W (.Call (.Name x p) [] [] pos) (mkE0 c "value") := by
  obtain ⟨fI, E⟩ := E
  exact PE.imp (pe_mkE0 E C.hr.room gC hsu hg hdb) fun st H Q ⟨w, ρ, s, e, q, p⟩ => fun e d h1 h2 h3 => exc_fresh p rX_non q h1 h2 h3
theorem pf_mkEK {kws : List Keyword} {g : FA} {x : Str} {p pos : Pos} {k c : Nat} (C : Cn T X W k) (E : ∃ f, ErrTxt X.prog X.K (T.ct c) f) (gC : X.mg x = some (.ref (T.ct c))) (hsu : X.mg "super" = none) (ha : PFK T X W kws g) (hg : Gl X x := by rfl) (hdb : (x == ("__debug__" : Str)) = false := by decide)
    (hall : ((backToKw pos (keywordEach kws X.env)).all fun x => x.fst.isSome) = true := by rfl) (hks : List.filterMap (fun x => x.fst) (backToKw pos (keywordEach kws X.env)) = [("value" : Str)] := by rfl)
    (hpl : (((backTo pos (starEach [] X.env)).any fun x => x.fst) || (backToKw pos (keywordEach kws X.env)).any fun x => x.fst.isNone) = false := by rfl) : PF T X W (.Call (.Name x p) [] kws pos) (mkE c "value" g) := by
  obtain ⟨fI, E⟩ := E
  refine PE.imp (pe_mkEK E C.hr.room gC hsu ha hg hdb hall hks hpl) fun st H Q ⟨w, ρ, s, e, q, p⟩ => rdA_mono (postE_bindL e q p) fun us H1 ⟨w1, xs, s1, l1, e1, x1, r1, p1⟩ => ?_
  split at p1
  · obtain ⟨u, rfl, x2⟩ := rxs1 x1
    exact ⟨u, rfl, fun e d h1 h2 h3 => exc_fresh p1 x2 r1 h1 h2 h3⟩
  · exact p1.elim
/-! ### the class whose field is named place -/
theorem pf_mkEp {a : Expr} {g : FA} {x : Str} {p pos : Pos} {k c : Nat} (C : Cn T X W k) (E : ∃ f, Pl.ErrTxt X.prog X.K (T.ct c) f) (gC : X.mg x = some (.ref (T.ct c))) (hsu : X.mg "super" = none) (ha : PFA T X W [a] g) (hg : Gl X x := by rfl) (hdb : (x == ("__debug__" : Str)) = false := by decide)
    (he : starEach (a :: []) X.env = (false, eval a X.env) :: starEach [] X.env := by rfl) (hpl : (backTo pos (starEach [] X.env)).any (·.1) = false := by rfl) : PF T X W (.Call (.Name x p) [a] [] pos) (mkE c "place" g) := by
  obtain ⟨fI, E⟩ := E
  refine PE.imp (Pl.pe_mkE E C.hr.room gC hsu ha hg hdb he hpl) fun st H Q ⟨w, ρ, s, e, q, p⟩ => rdA_mono (postE_bindL e q p) fun us H1 ⟨w1, xs, s1, l1, e1, x1, r1, p1⟩ => ?_
  split at p1
  · obtain ⟨u, rfl, x2⟩ := rxs1 x1
    exact ⟨u, rfl, fun e d h1 h2 h3 => exc_fresh p1 x2 r1 h1 h2 h3⟩
  · exact p1.elim
theorem pf_mkE0p {x : Str} {p pos : Pos} {k c : Nat} (C : Cn T X W k) (E : ∃ f, Pl.ErrTxt X.prog X.K (T.ct c) f) (gC : X.mg x = some (.ref (T.ct c))) (hsu : X.mg "super" = none) (hg : Gl X x := by rfl) (hdb : (x == ("__debug__" : Str)) = false := by decide) : PF T X W (.Call (.Name x p) [] [] pos) (mkE0 c "place") := by
  obtain ⟨fI, E⟩ := E
  exact PE.imp (Pl.pe_mkE0 E C.hr.room gC hsu hg hdb) fun st H Q ⟨w, ρ, s, e, q, p⟩ => fun e d h1 h2 h3 => exc_fresh p rX_non q h1 h2 h3
theorem pf_mkEKp {kws : List Keyword} {g : FA} {x : Str} {p pos : Pos} {k c : Nat} (C : Cn T X W k) (E : ∃ f, Pl.ErrTxt X.prog X.K (T.ct c) f) (gC : X.mg x = some (.ref (T.ct c))) (hsu : X.mg "super" = none) (ha : PFK T X W kws g) (hg : Gl X x := by rfl) (hdb : (x == ("__debug__" : Str)) = false := by decide)
    (hall : ((backToKw pos (keywordEach kws X.env)).all fun x => x.fst.isSome) = true := by rfl) (hks : List.filterMap (fun x => x.fst) (backToKw pos (keywordEach kws X.env)) = [("place" : Str)] := by rfl)
    (hpl : (((backTo pos (starEach [] X.env)).any fun x => x.fst) || (backToKw pos (keywordEach kws X.env)).any fun x => x.fst.isNone) = false := by rfl) : PF T X W (.Call (.Name x p) [] kws pos) (mkE c "place" g) := by
  obtain ⟨fI, E⟩ := E
  refine PE.imp (Pl.pe_mkEK E C.hr.room gC hsu ha hg hdb hall hks hpl) fun st H Q ⟨w, ρ, s, e, q, p⟩ => rdA_mono (postE_bindL e q p) fun us H1 ⟨w1, xs, s1, l1, e1, x1, r1, p1⟩ => ?_
  split at p1
  · obtain ⟨u, rfl, x2⟩ := rxs1 x1
    exact ⟨u, rfl, fun e d h1 h2 h3 => exc_fresh p1 x2 r1 h1 h2 h3⟩
  · exact p1.elim
/-! ### a class that adds nothing -/
theorem pf_mkP {x : Str} {p pos : Pos} {k c : Nat} (C : Cn T X W k) (E : PySem.W.excIn X.K (T.ct c) veB "ValueError.__new__" = true) (kC : PySem.W.keepIn X.K (.ref (T.ct c)) = true) (gC : X.mg x = some (.ref (T.ct c))) (hg : Gl X x := by rfl) (hdb : (x == ("__debug__" : Str)) = false := by decide) : PF T X W (.Call (.Name x p) [] [] pos) (mkP c) := ⟨fun pins s σ H Q I ⟨w, ρ, s0, e, r, q⟩ => by
  refine wpAny_Call_Name_kw (ld_glob I hg gC ?_ hdb)
  refine PySem.W.callWith_K0 I.kIn kC ?_
  obtain ⟨bm, N, nm, qn, bs, hdct, sn, sub, ab, col, dd, k0, k1, k2, k3, k5, mN, hC, hN, hni, Tl⟩ := exc_obj I.kIn E
  refine wpAny_call_exc_subT F.excBase_ValueError Tl hC hN hni (fun h' a hm => ?_) (by rw [sizeLine_eq]; exact Nat.zero_le _)
  have hn : H a = none := I.hok.gone hm.new
  obtain ⟨t, ht, _, _⟩ := hm.there
  obtain ⟨l1, r1⟩ := r.laidG (o := ExA (.ref (T.ct c)) none a) hn
  refine ⟨.ref a, upd H a (ExA (.ref (T.ct c)) none a), I.laidN hm.keeps hm.new hn ⟨⟨_, ht, ⟨rfl, rfl⟩, _, rfl⟩, ⟨_, ht⟩, fun h3 h4 ⟨o1, z1, z2, z3⟩ k => ⟨o1, k _ z1, z2, z3⟩⟩, rfl, q _ _ _ l1 ?_ r1⟩
  show R T _ (.exc c [] []) (.ref a)
  unfold R
  exact ⟨a, none, [], rfl, upd_same, .inl ⟨rfl, rfl⟩, rfl, by unfold Rs; rfl⟩⟩
end
end FL

set_option Elab.async false
set_option linter.all false
set_option maxRecDepth 100000
set_option maxHeartbeats 1000000
namespace FL
open PySem PySem.Spec PyProof.Rows L2
/-- what is known of the exceptions' classes, but for handlers -/
structure TxEw (T : Tx) (ex : Nat → Bool) : Prop where
  k : ∀ c, ex c = true → ExK T.K (T.ct c)
  is : ∀ c d, ex c = true → ex d = true → PySem.W.kitOne T.K (.ref (T.ct c)) (.ref (T.ct d)) = some (T.sub c d)
  ve : ∀ c, ex c = true → PySem.W.kitOne T.K (.ref (T.ct c)) (.type "ValueError") = some true
theorem bt_ValueError : bootBuiltins "ValueError" = some (.type "ValueError") := by first | rfl | decide +kernel | kernel_rfl
section
variable {T : Tx} {X : Cx} {W : WX} {own ex : Nat → Bool}
/-- isinstance with errors on the left, also against ValueError -/
def isEV (n : Nat) (sub : Nat → Nat → Bool) (own ex : Nat → Bool) (xs : List Xv) (s : Sto) : Res := match xs with
  | [.d (.exc c _ _), .d (.cls k)] => if ex c = true ∧ ex k = true then okB (sub c k) s else .stuck
  | [.d (.exc c _ _), .d (.ty t)] => if ex c = true ∧ t = "ValueError" then okB true s else .stuck
  | xs => isiX n sub own xs s
theorem isEV_ok (K : TxOk T own) (E : TxEw T ex) : OpN T W (fun xs H Q => rIsEx T.K xs H Q ∨ rIsi T.K xs H Q) (isEV T.n T.sub own ex) := by
  have base : ∀ (c : Nat) (ns : List Str) (ws : List D) (w : Wd) (s : Sto) (H : Hp) (v : V), ex c = true → RS T w s H → RX T w (.d (.exc c ns ws)) v → ∃ (a : Addr) (d : Option Addr), v = .ref a ∧ ExK T.K (T.ct c) ∧ H a = some (ExA (.ref (T.ct c)) d a) ∧ (d = none ∨ ∃ dd fs, d = some dd ∧ H dd = some (.xd fs)) := fun c ns ws w s H v hc r e => by
    have e' : R T w.G (.exc c ns ws) v := e
    unfold R at e'
    obtain ⟨a, d, fs, e1, e2, e3, e4, e5⟩ := e'
    refine ⟨a, d, e1, E.k c hc, r.g _ _ e2, ?_⟩
    rcases e3 with e3 | ⟨dd, e3, e6⟩
    · exact .inl e3.1
    · exact .inr ⟨dd, fs, e3, r.g _ _ e6⟩
  intro st w xs vs s H Q hx r p
  unfold isEV at p
  split at p
  · rename_i c ns ws k
    split at p
    · rename_i h
      obtain ⟨v, u, rfl, e, f⟩ := rxs2 hx
      cases cls_v f
      obtain ⟨a, d, rfl, k1, k2, k3⟩ := base c ns ws w s H v h.1 r e
      exact .inl ⟨a, T.ct c, d, _, _, _, rfl, k1, k2, k3, .own _, E.is c k h.1 h.2, okB_q p r⟩
    · exact p.elim
  · rename_i c ns ws t
    split at p
    · rename_i h
      obtain ⟨v, u, rfl, e, f⟩ := rxs2 hx
      obtain ⟨h1, rfl⟩ := h
      cases ty_v f
      obtain ⟨a, d, rfl, k1, k2, k3⟩ := base c ns ws w s H v h1 r e
      exact .inl ⟨a, T.ct c, d, _, _, _, rfl, k1, k2, k3, .ty _, E.ve c h1, okB_q p r⟩
    · exact p.elim
  · exact .inr (isi_ok K st w _ vs s H Q hx r p)
/-- e.place, of one class -/
def excP (ex : Nat → Bool) (c0 : Nat) (n : Str) (f : FE) : FE := fun ρ s => (f ρ s).bind fun x s1 => match x with
  | .d (.exc c ns vs) => if ex c = true ∧ c = c0 then (match getN ns vs n with | some v => .ok (.d v) s1 | none => .stuck) else .stuck
  | _ => .stuck
theorem pf_excP {e : Expr} {f : FE} {pos : Pos} (E : TxEw T ex) {c0 : Nat} (hP : PySem.W.findIn T.K (.ref (T.ct c0)) "place" = some none) (hK : X.K = T.K) (he : PF T X W e f) (hb : attributeBase e "place" X.env (eval e X.env) = eval e X.env := by rfl) : PF T X W (.Attribute e "place" pos) (excP ex c0 "place" f) := ⟨fun pins s σ H Q I h => by
  refine attr_of hb (thn (he.run pins s σ H (fun u H1 => ∃ (a C dd : Addr) (fs : List (Str × V)) (v : V), u = .ref a ∧ (ExK T.K C ∧ PySem.W.findIn T.K (.ref C) "place" = some none) ∧ H1 a = some (ExA (.ref C) (some dd) a) ∧ H1 dd = some (.xd fs) ∧ fs.lookup ("place" : Str) = some v ∧ Q v H1) I ?_) fun u s1 hh => ?_)
  · obtain ⟨w, ρ, s0, e0, q, p⟩ := h
    refine rdE_mono (postE_bind e0 q p) fun u H1 ⟨w1, x, s1, l1, e1, x1, r1, p1⟩ => ?_
    split at p1
    · rename_i c ns vs
      split at p1
      · rename_i hc
        split at p1
        · rename_i v hv
          have x1' : R T w1.G (.exc c ns vs) u := x1
          unfold R at x1'
          obtain ⟨a, d, fs, k1, k2, k3, k4, k5⟩ := x1'
          obtain ⟨v', hl, rv⟩ := getN_ok k4 k5 hv
          rcases k3 with ⟨_, k3⟩ | ⟨dd, k3, k6⟩
          · rw [k3] at hv
            simp [getN] at hv
          · subst k3
            exact ⟨a, _, dd, fs, v', k1, ⟨E.k c hc.1, hc.2 ▸ hP⟩, r1.g _ _ k2, r1.g _ _ k6, hl, postE_ok p1 rv r1⟩
        · exact p1.elim
      · exact p1.elim
    · exact p1.elim
  · obtain ⟨x, H1, I1, rx, a, C, dd, fs, v, rfl, K, h1, h2, h3, q⟩ := hh
    obtain rfl : u = Value.ref a := rx
    obtain ⟨⟨oe, e1, ⟨e2, e3⟩, vs, e4⟩, _, _⟩ := (show (∃ (oe : Obj), s1.heap.get? a = some oe ∧ Zc (.ref C) (some dd) oe ∧ ∃ vs, oe.data = .fields vs) ∧ _ from I1.hok a _ h1)
    obtain ⟨mA, hns, hr⟩ := (show ∃ mA, s1.heap.Ns1 dd mA ∧ ∀ f : Str, RelO (List.lookup f fs) (mA f) from I1.hok dd _ h2)
    obtain ⟨od, ho, hl⟩ := lookIn_ns hns
    obtain ⟨u, hu, ru⟩ := RelO.some_of (v := v) (o := mA "place") (by rw [← h3]; exact hr "place")
    have J : PySem.W.InstAt s1.heap a oe C (some od) := ⟨e1, e2, by unfold PySem.W.notCls; rw [e4], by rw [e3]; exact ho⟩
    rw [← hK] at K
    exact HandSPX.exc_get I1.kIn J K.1.ga K.1.gg K.1.exC (PySem.W.findObj_own K.1.hdC K.2 rfl (by rw [hl, hu])) (handed_of ru) ⟨v, H1, I1.tok _, ru, q⟩⟩
theorem pf_excV {e : Expr} {f : FE} {pos : Pos} (E : TxEw T ex) (hK : X.K = T.K) (he : PF T X W e f) (hb : attributeBase e "value" X.env (eval e X.env) = eval e X.env := by rfl) : PF T X W (.Attribute e "value" pos) (excF ex "value" f) := ⟨fun pins s σ H Q I h => by
  refine attr_of hb (thn (he.run pins s σ H (fun u H1 => ∃ (a C dd : Addr) (fs : List (Str × V)) (v : V), u = .ref a ∧ ExK T.K C ∧ H1 a = some (ExA (.ref C) (some dd) a) ∧ H1 dd = some (.xd fs) ∧ fs.lookup ("value" : Str) = some v ∧ Q v H1) I ?_) fun u s1 hh => ?_)
  · obtain ⟨w, ρ, s0, e0, q, p⟩ := h
    refine rdE_mono (postE_bind e0 q p) fun u H1 ⟨w1, x, s1, l1, e1, x1, r1, p1⟩ => ?_
    split at p1
    · rename_i c ns vs
      split at p1
      · rename_i hc
        split at p1
        · rename_i v hv
          have x1' : R T w1.G (.exc c ns vs) u := x1
          unfold R at x1'
          obtain ⟨a, d, fs, k1, k2, k3, k4, k5⟩ := x1'
          obtain ⟨v', hl, rv⟩ := getN_ok k4 k5 hv
          rcases k3 with ⟨_, k3⟩ | ⟨dd, k3, k6⟩
          · rw [k3] at hv
            simp [getN] at hv
          · subst k3
            exact ⟨a, _, dd, fs, v', k1, E.k c hc, r1.g _ _ k2, r1.g _ _ k6, hl, postE_ok p1 rv r1⟩
        · exact p1.elim
      · exact p1.elim
    · exact p1.elim
  · obtain ⟨x, H1, I1, rx, a, C, dd, fs, v, rfl, K, h1, h2, h3, q⟩ := hh
    obtain rfl : u = Value.ref a := rx
    obtain ⟨⟨oe, e1, ⟨e2, e3⟩, vs, e4⟩, _, _⟩ := (show (∃ (oe : Obj), s1.heap.get? a = some oe ∧ Zc (.ref C) (some dd) oe ∧ ∃ vs, oe.data = .fields vs) ∧ _ from I1.hok a _ h1)
    obtain ⟨mA, hns, hr⟩ := (show ∃ mA, s1.heap.Ns1 dd mA ∧ ∀ f : Str, RelO (List.lookup f fs) (mA f) from I1.hok dd _ h2)
    obtain ⟨od, ho, hl⟩ := lookIn_ns hns
    obtain ⟨u, hu, ru⟩ := RelO.some_of (v := v) (o := mA "value") (by rw [← h3]; exact hr "value")
    have J : PySem.W.InstAt s1.heap a oe C (some od) := ⟨e1, e2, by unfold PySem.W.notCls; rw [e4], by rw [e3]; exact ho⟩
    rw [← hK] at K
    exact HandSPX.exc_get I1.kIn J K.ga K.gg K.exC (PySem.W.findObj_own K.hdC K.noV rfl (by rw [hl, hu])) (handed_of ru) ⟨v, H1, I1.tok _, ru, q⟩⟩
end
end FL

set_option Elab.async false
set_option linter.all false
set_option maxRecDepth 100000
set_option maxHeartbeats 1000000
namespace FL
open PySem PySem.Spec PyProof.Rows L2
def top (i : Nat) : Stmt := PySem.Challenge.pw_openloops_k08_errors_by_their_classes.main.body.getD i (.Pass ⟨0, 0, 0, 0⟩)
def mth (i j : Nat) : Stmt := match top i with | .ClassDef _ _ _ b _ _ _ _ _ _ _ => b.getD j (.Pass ⟨0, 0, 0, 0⟩) | s => s
def nC : Nat := 31
def subB (c k : Nat) : Bool := c == k || (k == 0 && decide (c < 30))
def ownB (c : Nat) : Bool := decide (30 ≤ c) && decide (c < 31)
def exB (c : Nat) : Bool := decide (c < 30)
abbrev tx (K : PySem.W.Frag) (ct : Nat → Addr) : Tx := ⟨K, ct, nC, subB⟩
structure Tb (P : Program) (K : PySem.W.Frag) (mg : Str → Option Value) (ct : Nat → Addr) : Prop where
  txo : TxOk (tx K ct) ownB
  tew : TxEw (tx K ct) exB
  np : PySem.W.findIn K (.ref (ct 27)) "place" = some none
  x_LoopError : PySem.W.excIn K (ct 0) veB "ValueError.__new__" = true
  kx_LoopError : PySem.W.keepIn K (.ref (ct 0)) = true
  x_NothingToRedo : PySem.W.excIn K (ct 29) veB "ValueError.__new__" = true
  kx_NothingToRedo : PySem.W.keepIn K (.ref (ct 29)) = true
  x_NothingToUndo : PySem.W.excIn K (ct 28) veB "ValueError.__new__" = true
  kx_NothingToUndo : PySem.W.keepIn K (.ref (ct 28)) = true
  tcl : TxCl (tx K ct) ownB
  n__many : ∀ c, ownB c = true → NoAttr K (ct c) "_many"
  n__pieces : ∀ c, ownB c = true → NoAttr K (ct c) "_pieces"
  g_ValueError : mg "ValueError" = none
  g_bool : mg "bool" = none
  g_int : mg "int" = none
  g_isinstance : mg "isinstance" = none
  g_len : mg "len" = none
  g_list : mg "list" = none
  g_max : mg "max" = none
  g_range : mg "range" = none
  g_str : mg "str" = none
  g_sum : mg "sum" = none
  g_super : mg "super" = none
  g_tuple : mg "tuple" = none
  g_zip : mg "zip" = none
  c_MOST_MEASURE : ∃ t, mg "MOST_MEASURE" = some (.int 2000 t)
  c_MOST_PIECES : ∃ t, mg "MOST_PIECES" = some (.int 5000 t)
  c_MOST_PIECE_LETTERS : ∃ t, mg "MOST_PIECE_LETTERS" = some (.int 2000 t)
  c_MOST_UNKNOWNS : ∃ t, mg "MOST_UNKNOWNS" = some (.int 3 t)
  c_LETTERS : ∃ t, mg "LETTERS" = some (.str "abcdefghijklmnopqrstuvwxyz" t)
  m_LoopError : mg "LoopError" = some (.ref (ct 0))
  m_InvalidNumber : mg "InvalidNumber" = some (.ref (ct 1))
  m_InvalidWord : mg "InvalidWord" = some (.ref (ct 2))
  m_InvalidForm : mg "InvalidForm" = some (.ref (ct 3))
  m_InvalidPoint : mg "InvalidPoint" = some (.ref (ct 4))
  m_InvalidPieces : mg "InvalidPieces" = some (.ref (ct 5))
  m_InvalidList : mg "InvalidList" = some (.ref (ct 6))
  m_InvalidLines : mg "InvalidLines" = some (.ref (ct 7))
  m_InvalidPlace : mg "InvalidPlace" = some (.ref (ct 8))
  m_InvalidAmount : mg "InvalidAmount" = some (.ref (ct 9))
  m_InvalidStep : mg "InvalidStep" = some (.ref (ct 10))
  m_InvalidWay : mg "InvalidWay" = some (.ref (ct 11))
  m_InvalidDeed : mg "InvalidDeed" = some (.ref (ct 12))
  m_InvalidFlag : mg "InvalidFlag" = some (.ref (ct 13))
  m_InvalidText : mg "InvalidText" = some (.ref (ct 14))
  m_InvalidGrid : mg "InvalidGrid" = some (.ref (ct 15))
  m_InvalidSet : mg "InvalidSet" = some (.ref (ct 16))
  m_InvalidTable : mg "InvalidTable" = some (.ref (ct 17))
  m_InvalidAutomaton : mg "InvalidAutomaton" = some (.ref (ct 18))
  m_InvalidMaker : mg "InvalidMaker" = some (.ref (ct 19))
  m_InvalidProgram : mg "InvalidProgram" = some (.ref (ct 20))
  m_InvalidWorkshop : mg "InvalidWorkshop" = some (.ref (ct 21))
  m_InvalidPiece : mg "InvalidPiece" = some (.ref (ct 22))
  m_Unlike : mg "Unlike" = some (.ref (ct 23))
  m_TooLong : mg "TooLong" = some (.ref (ct 24))
  m_TooMany : mg "TooMany" = some (.ref (ct 25))
  m_UnknownPart : mg "UnknownPart" = some (.ref (ct 26))
  m_OpenInOpen : mg "OpenInOpen" = some (.ref (ct 27))
  m_NothingToUndo : mg "NothingToUndo" = some (.ref (ct 28))
  m_NothingToRedo : mg "NothingToRedo" = some (.ref (ct 29))
  m_OpenText : mg "OpenText" = some (.ref (ct 30))
  e_InvalidNumber : ∃ f, ErrTxt P K (ct 1) f
  e_InvalidWord : ∃ f, ErrTxt P K (ct 2) f
  e_InvalidForm : ∃ f, ErrTxt P K (ct 3) f
  e_InvalidPoint : ∃ f, ErrTxt P K (ct 4) f
  e_InvalidPieces : ∃ f, ErrTxt P K (ct 5) f
  e_InvalidList : ∃ f, ErrTxt P K (ct 6) f
  e_InvalidLines : ∃ f, ErrTxt P K (ct 7) f
  e_InvalidPlace : ∃ f, ErrTxt P K (ct 8) f
  e_InvalidAmount : ∃ f, ErrTxt P K (ct 9) f
  e_InvalidStep : ∃ f, ErrTxt P K (ct 10) f
  e_InvalidWay : ∃ f, ErrTxt P K (ct 11) f
  e_InvalidDeed : ∃ f, ErrTxt P K (ct 12) f
  e_InvalidFlag : ∃ f, ErrTxt P K (ct 13) f
  e_InvalidText : ∃ f, ErrTxt P K (ct 14) f
  e_InvalidGrid : ∃ f, ErrTxt P K (ct 15) f
  e_InvalidSet : ∃ f, ErrTxt P K (ct 16) f
  e_InvalidTable : ∃ f, ErrTxt P K (ct 17) f
  e_InvalidAutomaton : ∃ f, ErrTxt P K (ct 18) f
  e_InvalidMaker : ∃ f, ErrTxt P K (ct 19) f
  e_InvalidProgram : ∃ f, ErrTxt P K (ct 20) f
  e_InvalidWorkshop : ∃ f, ErrTxt P K (ct 21) f
  e_InvalidPiece : ∃ f, ErrTxt P K (ct 22) f
  e_Unlike : ∃ f, ErrTxt P K (ct 23) f
  e_TooLong : ∃ f, ErrTxt P K (ct 24) f
  e_TooMany : ∃ f, ErrTxt P K (ct 25) f
  e_UnknownPart : ∃ f, ErrTxt P K (ct 26) f
  e_OpenInOpen : ∃ f, Pl.ErrTxt P K (ct 27) f
theorem Cn.tr {T : Tx} {X : Cx} {W W2 : WX} {k : Nat} {pn : List (Addr × Obj)} {xe : Value → Shared → Prop} (C : Cn T X W k) (tk : Takes (X.tr pn xe) W2) : Cn T (X.tr pn xe) W2 k := ⟨C.hK, C.hr, tk, C.calm, C.nd⟩
section
variable {P : Program} {w : World} {K : PySem.W.Frag} {mg : Str → Option Value} {base : Heap} {ct : Nat → Addr}
/-! is_whole -/
def N_is_whole : List Str := ["value"]
def P_is_whole : List Str := ["value"]
def S_is_whole : FS := (retS (andF (callBF (isEV nC subB ownB exB) (consA (varF 0) (consA (litF (.ty "int")) nilA))) (notF (callBF (isEV nC subB ownB exB) (consA (varF 0) (consA (litF (.ty "bool")) nilA))))))
def F_is_whole : Fn := bodyF 0 S_is_whole
theorem sc_is_whole : FnScope N_is_whole P_is_whole (defScope (top 34)) := ⟨rfl, rfl, rfl, by decide +kernel, rfl, by decide +kernel, by decide +kernel⟩
theorem b_is_whole (B : Tb P K mg ct) (q : Qx) (W : WX) (hr : RoomG 0 q.A) (tk : Takes (mkX P w K mg base N_is_whole (defScope (top 34)) q) W) (hp : PassesOwn (model P w) q.A (enX (defScope (top 34)) q) q.xe) :
    PFSs (tx K ct) (mkX P w K mg base N_is_whole (defScope (top 34)) q) W (defBody (top 34)) S_is_whole :=
  have C : Cn (tx K ct) (mkX P w K mg base N_is_whole (defScope (top 34)) q) W 0 := ⟨rfl, hr, tk, rfl, sc_is_whole.nd⟩
  (pfs_one (pfs_ret (pf_and (pf_callB (b_isi C) (isEV_ok B.txo B.tew) B.g_isinstance bt_isinstance (pfa_cons (pf_var 0) (pfa_cons (pf_ty B.g_int bt_int) pfa_nil))) (pf_one (pf_not (pf_callB (b_isi C) (isEV_ok B.txo B.tew) B.g_isinstance bt_isinstance (pfa_cons (pf_var 0) (pfa_cons (pf_ty B.g_bool bt_bool) pfa_nil))))))))
/-! is_between -/
def N_is_between : List Str := ["value", "low", "high"]
def P_is_between : List Str := ["value", "low", "high"]
def S_is_between : FS := (retS (andF (callF false F_is_whole [] (consA (varF 0) nilA)) (andF (op2F (leX) (varF 1) (varF 0)) (orF (op2F (isNoneX false) (varF 2) (litF .non)) (op2F (leX) (varF 0) (varF 2))))))
def F_is_between : Fn := bodyF 0 S_is_between
theorem sc_is_between : FnScope N_is_between P_is_between (defScope (top 35)) := ⟨rfl, rfl, rfl, by decide +kernel, rfl, by decide +kernel, by decide +kernel⟩
theorem b_is_between (B : Tb P K mg ct) (hD_is_whole : Def (tx K ct) P w K mg base 1 "is_whole" ["value"] [] F_is_whole) (q : Qx) (W : WX) (hr : RoomG 1 q.A) (tk : Takes (mkX P w K mg base N_is_between (defScope (top 35)) q) W) (hp : PassesOwn (model P w) q.A (enX (defScope (top 35)) q) q.xe) :
    PFSs (tx K ct) (mkX P w K mg base N_is_between (defScope (top 35)) q) W (defBody (top 35)) S_is_between :=
  have C : Cn (tx K ct) (mkX P w K mg base N_is_between (defScope (top 35)) q) W 1 := ⟨rfl, hr, tk, rfl, sc_is_between.nd⟩
  (pfs_one (pfs_ret (pf_and (pf_callD false hD_is_whole C (pfa_cons (pf_var 0) pfa_nil) (len_cons len_nil)) (pf_and (pf_cmp op_le int2B_ok (pf_var 1) (pf_var 0) (nomark _)) (pf_one (pf_or (pf_cmp op_isN isNone_ok (pf_var 2) pf_non (nomark _)) (pf_one (pf_cmp op_le int2B_ok (pf_var 0) (pf_var 2) (nomark _)))))))))
/-! are_counts -/
def N_are_counts : List Str := ["items", "item"]
def P_are_counts : List Str := ["items"]
def T0_are_counts : FE := (notF (callF false F_is_between [] (consA (varF 1) (consA (litF (.int 0)) (consA (litF .non) nilA)))))
def E1_are_counts : FE := (varF 1)
def S_are_counts : FS := (retS (op2F (eqX false) (lcF false [1] (nameG 1) (iterF (varF 0)) T0_are_counts E1_are_counts) (lstF false nilA)))
def F_are_counts : Fn := bodyF 1 S_are_counts
theorem sc_are_counts : FnScope N_are_counts P_are_counts (defScope (top 36)) := ⟨rfl, rfl, rfl, by decide +kernel, rfl, by decide +kernel, by decide +kernel⟩
theorem b_are_counts (B : Tb P K mg ct) (hD_is_between : Def (tx K ct) P w K mg base 2 "is_between" ["value", "low", "high"] [] F_is_between) (q : Qx) (W : WX) (hr : RoomG 2 q.A) (tk : Takes (mkX P w K mg base N_are_counts (defScope (top 36)) q) W) (hp : PassesOwn (model P w) q.A (enX (defScope (top 36)) q) q.xe) :
    PFSs (tx K ct) (mkX P w K mg base N_are_counts (defScope (top 36)) q) W (defBody (top 36)) S_are_counts :=
  have C : Cn (tx K ct) (mkX P w K mg base N_are_counts (defScope (top 36)) q) W 2 := ⟨rfl, hr, tk, rfl, sc_are_counts.nd⟩
  (pfs_one (pfs_ret (pf_cmp (o_eq C) eq_ok (pf_lc (own := [("item", 1)]) false C.calm C.nd (pfi_seq C.hK (pf_var 0)) (blkOk_by (by first | decide +kernel | rfl)) (fun _ _ _ _ _ => (pfg_name (i := 1) (Cn.blk C _ _ _ _ _).nd)) (fun _ _ _ _ _ => (pts_1 (pft_not (pft_of (Cn.blk C _ _ _ _ _).hK (pf_callD false hD_is_between (Cn.blk C _ _ _ _ _) (pfa_cons (pf_var 1) (pfa_cons pf_int (pfa_cons pf_non pfa_nil))) (len_cons (len_cons (len_cons len_nil)))))))) (fun _ _ _ _ _ => (pf_var 1))) (pf_lst false pfa_nil) (nomark _))))
/-! is_letters -/
def N_is_letters : List Str := ["value", "most"]
def P_is_letters : List Str := ["value", "most"]
def S_is_letters : FS := (retS (andF (callBF (isEV nC subB ownB exB) (consA (varF 0) (consA (litF (.ty "str")) nilA))) (andF (op2F (leX) (callBF lenX (consA (varF 0) nilA)) (varF 1)) (op2F (eqX false) (strM opStrip (varF 0) (consA (litF (.str "abcdefghijklmnopqrstuvwxyz")) nilA)) (litF (.str ""))))))
def F_is_letters : Fn := bodyF 0 S_is_letters
theorem sc_is_letters : FnScope N_is_letters P_is_letters (defScope (top 37)) := ⟨rfl, rfl, rfl, by decide +kernel, rfl, by decide +kernel, by decide +kernel⟩
theorem b_is_letters (B : Tb P K mg ct) (q : Qx) (W : WX) (hr : RoomG 0 q.A) (tk : Takes (mkX P w K mg base N_is_letters (defScope (top 37)) q) W) (hp : PassesOwn (model P w) q.A (enX (defScope (top 37)) q) q.xe) :
    PFSs (tx K ct) (mkX P w K mg base N_is_letters (defScope (top 37)) q) W (defBody (top 37)) S_is_letters :=
  have C : Cn (tx K ct) (mkX P w K mg base N_is_letters (defScope (top 37)) q) W 0 := ⟨rfl, hr, tk, rfl, sc_is_letters.nd⟩
  (pfs_one (pfs_ret (pf_and (pf_callB (b_isi C) (isEV_ok B.txo B.tew) B.g_isinstance bt_isinstance (pfa_cons (pf_var 0) (pfa_cons (pf_ty B.g_str bt_str) pfa_nil))) (pf_and (pf_cmp op_le int2B_ok (pf_callB (b_len C) len_ok B.g_len bt_len (pfa_cons (pf_var 0) pfa_nil)) (pf_var 1) (nomark _)) (pf_one (pf_cmp (o_eq C) eq_ok (pf_strip (pf_var 0) (pfa_cons (pf_gstr B.c_LETTERS.choose_spec) pfa_nil)) pf_str (nomark _)))))))
/-! is_form_for -/
def N_is_form_for : List Str := ["many", "value"]
def P_is_form_for : List Str := ["many", "value"]
def S_is_form_for : FS := (retS (andF (callBF (isEV nC subB ownB exB) (consA (varF 1) (consA (litF (.ty "tuple")) nilA))) (andF (op2F (eqX false) (callBF lenX (consA (varF 1) nilA)) (op2F (addX false) (varF 0) (litF (.int 1)))) (callF false F_are_counts [] (consA (varF 1) nilA)))))
def F_is_form_for : Fn := bodyF 0 S_is_form_for
theorem sc_is_form_for : FnScope N_is_form_for P_is_form_for (defScope (top 38)) := ⟨rfl, rfl, rfl, by decide +kernel, rfl, by decide +kernel, by decide +kernel⟩
theorem b_is_form_for (B : Tb P K mg ct) (hD_are_counts : Def (tx K ct) P w K mg base 3 "are_counts" ["items"] [] F_are_counts) (q : Qx) (W : WX) (hr : RoomG 3 q.A) (tk : Takes (mkX P w K mg base N_is_form_for (defScope (top 38)) q) W) (hp : PassesOwn (model P w) q.A (enX (defScope (top 38)) q) q.xe) :
    PFSs (tx K ct) (mkX P w K mg base N_is_form_for (defScope (top 38)) q) W (defBody (top 38)) S_is_form_for :=
  have C : Cn (tx K ct) (mkX P w K mg base N_is_form_for (defScope (top 38)) q) W 3 := ⟨rfl, hr, tk, rfl, sc_is_form_for.nd⟩
  (pfs_one (pfs_ret (pf_and (pf_callB (b_isi C) (isEV_ok B.txo B.tew) B.g_isinstance bt_isinstance (pfa_cons (pf_var 1) (pfa_cons (pf_ty B.g_tuple bt_tuple) pfa_nil))) (pf_and (pf_cmp (o_eq C) eq_ok (pf_callB (b_len C) len_ok B.g_len bt_len (pfa_cons (pf_var 1) pfa_nil)) (pf_add false C.hK (pf_var 0) pf_int) (nomark _)) (pf_one (pf_callD false hD_are_counts C (pfa_cons (pf_var 1) pfa_nil) (len_cons len_nil)))))))
/-! check_number -/
def N_check_number : List Str := ["number", "low", "high"]
def P_check_number : List Str := ["number", "low", "high"]
def S_check_number : FS := (ifS (notF (callF false F_is_between [] (consA (varF 0) (consA (varF 1) (consA (varF 2) nilA))))) (raiseS 1 (varF 0)) skipS)
def F_check_number : Fn := bodyF 0 S_check_number
theorem sc_check_number : FnScope N_check_number P_check_number (defScope (top 39)) := ⟨rfl, rfl, rfl, by decide +kernel, rfl, by decide +kernel, by decide +kernel⟩
theorem b_check_number (B : Tb P K mg ct) (hD_is_between : Def (tx K ct) P w K mg base 2 "is_between" ["value", "low", "high"] [] F_is_between) (q : Qx) (W : WX) (hr : RoomG 2 q.A) (tk : Takes (mkX P w K mg base N_check_number (defScope (top 39)) q) W) (hp : PassesOwn (model P w) q.A (enX (defScope (top 39)) q) q.xe) :
    PFSs (tx K ct) (mkX P w K mg base N_check_number (defScope (top 39)) q) W (defBody (top 39)) S_check_number :=
  have C : Cn (tx K ct) (mkX P w K mg base N_check_number (defScope (top 39)) q) W 2 := ⟨rfl, hr, tk, rfl, sc_check_number.nd⟩
  (pfs_one (pfs_if (pft_not (pft_of C.hK (pf_callD false hD_is_between C (pfa_cons (pf_var 0) (pfa_cons (pf_var 1) (pfa_cons (pf_var 2) pfa_nil))) (len_cons (len_cons (len_cons len_nil)))))) (pfs_one (pfs_raise (c := 1) C.calm B.e_InvalidNumber.choose_spec rfl C.hr C.tk B.m_InvalidNumber B.g_super (pf_var 0))) pfs_nil))
/-! check_many -/
def N_check_many : List Str := ["many"]
def P_check_many : List Str := ["many"]
def S_check_many : FS := (exprS (callF false F_check_number [] (consA (varF 0) (consA (litF (.int 0)) (consA (litF (.int 3)) nilA)))))
def F_check_many : Fn := bodyF 0 S_check_many
theorem sc_check_many : FnScope N_check_many P_check_many (defScope (top 40)) := ⟨rfl, rfl, rfl, by decide +kernel, rfl, by decide +kernel, by decide +kernel⟩
theorem b_check_many (B : Tb P K mg ct) (hD_check_number : Def (tx K ct) P w K mg base 3 "check_number" ["number", "low", "high"] [] F_check_number) (q : Qx) (W : WX) (hr : RoomG 3 q.A) (tk : Takes (mkX P w K mg base N_check_many (defScope (top 40)) q) W) (hp : PassesOwn (model P w) q.A (enX (defScope (top 40)) q) q.xe) :
    PFSs (tx K ct) (mkX P w K mg base N_check_many (defScope (top 40)) q) W (defBody (top 40)) S_check_many :=
  have C : Cn (tx K ct) (mkX P w K mg base N_check_many (defScope (top 40)) q) W 3 := ⟨rfl, hr, tk, rfl, sc_check_many.nd⟩
  (pfs_one (pfs_expr (pf_callD false hD_check_number C (pfa_cons (pf_var 0) (pfa_cons pf_int (pfa_cons (pf_gint B.c_MOST_UNKNOWNS.choose_spec) pfa_nil))) (len_cons (len_cons (len_cons len_nil))))))
/-! plain -/
def N_plain : List Str := ["many", "number"]
def P_plain : List Str := ["many", "number"]
def S_plain : FS := (retS (op2F (addX false) (tupF (consA (varF 1) nilA)) (op2F (mulTX false) (tupF (consA (litF (.int 0)) nilA)) (varF 0))))
def F_plain : Fn := bodyF 0 S_plain
theorem sc_plain : FnScope N_plain P_plain (defScope (top 42)) := ⟨rfl, rfl, rfl, by decide +kernel, rfl, by decide +kernel, by decide +kernel⟩
theorem b_plain (B : Tb P K mg ct) (q : Qx) (W : WX) (hr : RoomG 0 q.A) (tk : Takes (mkX P w K mg base N_plain (defScope (top 42)) q) W) (hp : PassesOwn (model P w) q.A (enX (defScope (top 42)) q) q.xe) :
    PFSs (tx K ct) (mkX P w K mg base N_plain (defScope (top 42)) q) W (defBody (top 42)) S_plain :=
  have C : Cn (tx K ct) (mkX P w K mg base N_plain (defScope (top 42)) q) W 0 := ⟨rfl, hr, tk, rfl, sc_plain.nd⟩
  (pfs_one (pfs_ret (pf_add false C.hK (pf_tup (pfa_cons (pf_var 1) pfa_nil)) (pf_mulT false C.hK (pf_tup (pfa_cons pf_int pfa_nil)) (pf_var 0)))))
/-! is_open_form -/
def N_is_open_form : List Str := ["form"]
def P_is_open_form : List Str := ["form"]
def S_is_open_form : FS := (retS (op2F (gtX) (callBF sumTX (consA (slF false (varF 0) (intF (litF (.int 1))) (litF .non)) nilA)) (litF (.int 0))))
def F_is_open_form : Fn := bodyF 0 S_is_open_form
theorem sc_is_open_form : FnScope N_is_open_form P_is_open_form (defScope (top 43)) := ⟨rfl, rfl, rfl, by decide +kernel, rfl, by decide +kernel, by decide +kernel⟩
theorem b_is_open_form (B : Tb P K mg ct) (q : Qx) (W : WX) (hr : RoomG 0 q.A) (tk : Takes (mkX P w K mg base N_is_open_form (defScope (top 43)) q) W) (hp : PassesOwn (model P w) q.A (enX (defScope (top 43)) q) q.xe) :
    PFSs (tx K ct) (mkX P w K mg base N_is_open_form (defScope (top 43)) q) W (defBody (top 43)) S_is_open_form :=
  have C : Cn (tx K ct) (mkX P w K mg base N_is_open_form (defScope (top 43)) q) W 0 := ⟨rfl, hr, tk, rfl, sc_is_open_form.nd⟩
  (pfs_one (pfs_ret (pf_cmp op_gt int2B_ok (pf_callB (b_sumT C) sumT_ok B.g_sum bt_sum (pfa_cons (pf_slice false C.hK (pf_var 0) (pfo_some pf_int) pfo_none) pfa_nil)) pf_int (nomark _))))
/-! form_sum -/
def N_form_sum : List Str := ["one", "other", "low", "high"]
def P_form_sum : List Str := ["one", "other"]
def E0_form_sum : FE := (op2F (addX false) (varF 2) (varF 3))
def S_form_sum : FS := (retS (callBF tupleX (consA (lcF false [2, 3] (tupG 2 (consG (nameG 2) (consG (nameG 3) nilG))) (zipSF (consA (varF 0) (consA (varF 1) nilA))) yesF E0_form_sum) nilA)))
def F_form_sum : Fn := bodyF 2 S_form_sum
theorem sc_form_sum : FnScope N_form_sum P_form_sum (defScope (top 44)) := ⟨rfl, rfl, rfl, by decide +kernel, rfl, by decide +kernel, by decide +kernel⟩
theorem b_form_sum (B : Tb P K mg ct) (q : Qx) (W : WX) (hr : RoomG 0 q.A) (tk : Takes (mkX P w K mg base N_form_sum (defScope (top 44)) q) W) (hp : PassesOwn (model P w) q.A (enX (defScope (top 44)) q) q.xe) :
    PFSs (tx K ct) (mkX P w K mg base N_form_sum (defScope (top 44)) q) W (defBody (top 44)) S_form_sum :=
  have C : Cn (tx K ct) (mkX P w K mg base N_form_sum (defScope (top 44)) q) W 0 := ⟨rfl, hr, tk, rfl, sc_form_sum.nd⟩
  (pfs_one (pfs_ret (pf_callTy (b_tuple C) tuple_ok B.g_tuple bt_tuple (pfa_cons (pf_lc (own := [("low", 2), ("high", 3)]) false C.calm C.nd (pfi_zipS C.hK B.g_zip (pfa_cons (pf_var 0) (pfa_cons (pf_var 1) pfa_nil))) (blkOk_by (by first | decide +kernel | rfl)) (fun _ _ _ _ _ => (pfg_tup (Cn.blk C _ _ _ _ _).hK (Cn.blk C _ _ _ _ _).calm (pfgs_cons (pfg_name (i := 2) (Cn.blk C _ _ _ _ _).nd) (pfgs_cons (pfg_name (i := 3) (Cn.blk C _ _ _ _ _).nd) pfgs_nil)))) (fun _ _ _ _ _ => pts_yes) (fun _ _ _ _ _ => (pf_add false (Cn.blk C _ _ _ _ _).hK (pf_var 2) (pf_var 3)))) pfa_nil))))
/-! form_times -/
def N_form_times : List Str := ["number", "form", "item"]
def P_form_times : List Str := ["number", "form"]
def E0_form_times : FE := (op2F (mulTX false) (varF 0) (varF 2))
def S_form_times : FS := (retS (callBF tupleX (consA (lcF false [2] (nameG 2) (iterF (varF 1)) yesF E0_form_times) nilA)))
def F_form_times : Fn := bodyF 1 S_form_times
theorem sc_form_times : FnScope N_form_times P_form_times (defScope (top 45)) := ⟨rfl, rfl, rfl, by decide +kernel, rfl, by decide +kernel, by decide +kernel⟩
theorem b_form_times (B : Tb P K mg ct) (q : Qx) (W : WX) (hr : RoomG 0 q.A) (tk : Takes (mkX P w K mg base N_form_times (defScope (top 45)) q) W) (hp : PassesOwn (model P w) q.A (enX (defScope (top 45)) q) q.xe) :
    PFSs (tx K ct) (mkX P w K mg base N_form_times (defScope (top 45)) q) W (defBody (top 45)) S_form_times :=
  have C : Cn (tx K ct) (mkX P w K mg base N_form_times (defScope (top 45)) q) W 0 := ⟨rfl, hr, tk, rfl, sc_form_times.nd⟩
  (pfs_one (pfs_ret (pf_callTy (b_tuple C) tuple_ok B.g_tuple bt_tuple (pfa_cons (pf_lc (own := [("item", 2)]) false C.calm C.nd (pfi_seq C.hK (pf_var 1)) (blkOk_by (by first | decide +kernel | rfl)) (fun _ _ _ _ _ => (pfg_name (i := 2) (Cn.blk C _ _ _ _ _).nd)) (fun _ _ _ _ _ => pts_yes) (fun _ _ _ _ _ => (pf_mulT false (Cn.blk C _ _ _ _ _).hK (pf_var 0) (pf_var 2)))) pfa_nil))))
/-! borders -/
def N_borders : List Str := ["word", "found", "place", "many"]
def P_borders : List Str := ["word"]
def B0_borders : FS := (setS 3 (op2F ixX (varF 1) (op2F subX (varF 3) (litF (.int 1)))))
def B1_borders : FS := (seqS (setS 3 (op2F ixX (varF 1) (op2F subX (varF 2) (litF (.int 1))))) (seqS (whileS (fun (ρ : Env') (_ : Sto) => match ρ[3]? with | some (some (Xv.d (D.int i))) => i.toNat + 1 | _ => 0) (andF (op2F (gtX) (varF 3) (litF (.int 0))) (op2F (eqX true) (op2F ixX (varF 0) (varF 2)) (op2F ixX (varF 0) (varF 3)))) B0_borders) (seqS (ifS (op2F (eqX false) (op2F ixX (varF 0) (varF 2)) (op2F ixX (varF 0) (varF 3))) (setS 3 (op2F (addX false) (varF 3) (litF (.int 1)))) skipS) (exprS (appF (varF 1) (consA (varF 3) nilA))))))
def S_borders : FS := (seqS (setS 1 (lstF true (consA (litF (.int 0)) nilA))) (seqS (forS (nameG 2) (rng2F (consA (litF (.int 1)) (consA (callBF lenX (consA (varF 0) nilA)) nilA))) B1_borders) (retS (varF 1))))
def F_borders : Fn := bodyF 3 S_borders
theorem sc_borders : FnScope N_borders P_borders (defScope (top 47)) := ⟨rfl, rfl, rfl, by decide +kernel, rfl, by decide +kernel, by decide +kernel⟩
theorem b_borders (B : Tb P K mg ct) (q : Qx) (W : WX) (hr : RoomG 0 q.A) (tk : Takes (mkX P w K mg base N_borders (defScope (top 47)) q) W) (hp : PassesOwn (model P w) q.A (enX (defScope (top 47)) q) q.xe) :
    PFSs (tx K ct) (mkX P w K mg base N_borders (defScope (top 47)) q) W (defBody (top 47)) S_borders :=
  have C : Cn (tx K ct) (mkX P w K mg base N_borders (defScope (top 47)) q) W 0 := ⟨rfl, hr, tk, rfl, sc_borders.nd⟩
  (pfs_cons (pfs_set (i := 1) C.nd (pf_lst true (pfa_cons pf_int pfa_nil))) (pfs_cons (pfs_for hp C.calm (pfi_range2 B.g_range (pfa_cons pf_int (pfa_cons (pf_callB (b_len C) len_ok B.g_len bt_len (pfa_cons (pf_var 0) pfa_nil)) pfa_nil))) (pfg_name (i := 2) C.nd) (pfs_cons (pfs_set (i := 3) C.nd (pf_ix C.hK (pf_var 1) (pf_sub (pf_var 2) pf_int))) (pfs_cons (pfs_while (fun (ρ : Env') (_ : Sto) => match ρ[3]? with | some (some (Xv.d (D.int i))) => i.toNat + 1 | _ => 0) hp (pft_w (pfw_and (pft_cmp op_gt int2B_ok int2_bl (pf_var 3) pf_int (nomark _)) (pfw_and1 (pft_cmp (o_ne C) ne_ok eqX_bl (pf_ix C.hK (pf_var 0) (pf_var 2)) (pf_ix C.hK (pf_var 0) (pf_var 3)) (nomark _))))) (pfs_one (pfs_set (i := 3) C.nd (pf_ix C.hK (pf_var 1) (pf_sub (pf_var 3) pf_int))))) (pfs_cons (pfs_if (pft_cmp (o_eq C) eq_ok eqX_bl (pf_ix C.hK (pf_var 0) (pf_var 2)) (pf_ix C.hK (pf_var 0) (pf_var 3)) (nomark _)) (pfs_one (pfs_set (i := 3) C.nd (pf_add false C.hK (pf_var 3) pf_int))) pfs_nil) (pfs_one (pfs_expr (pf_append C.hK (pf_var 1) (pfa_cons (pf_var 3) pfa_nil)))))))) (pfs_one (pfs_ret (pf_var 1)))))
/-! root_of -/
def N_root_of : List Str := ["word", "many"]
def P_root_of : List Str := ["word"]
def S_root_of : FS := (seqS (setS 1 (op2F subX (callBF lenX (consA (varF 0) nilA)) (op2F ixX (callF false F_borders [] (consA (varF 0) nilA)) (negF (litF (.int 1)))))) (seqS (ifS (op2F (eqX true) (op2F modX (callBF lenX (consA (varF 0) nilA)) (varF 1)) (litF (.int 0))) (retS (tupF (consA (varF 0) (consA (litF (.int 1)) nilA)))) skipS) (retS (tupF (consA (slF false (varF 0) (litF .non) (intF (varF 1))) (consA (op2F fdivX (callBF lenX (consA (varF 0) nilA)) (varF 1)) nilA))))))
def F_root_of : Fn := bodyF 1 S_root_of
theorem sc_root_of : FnScope N_root_of P_root_of (defScope (top 48)) := ⟨rfl, rfl, rfl, by decide +kernel, rfl, by decide +kernel, by decide +kernel⟩
theorem b_root_of (B : Tb P K mg ct) (hD_borders : Def (tx K ct) P w K mg base 1 "borders" ["word"] [] F_borders) (q : Qx) (W : WX) (hr : RoomG 1 q.A) (tk : Takes (mkX P w K mg base N_root_of (defScope (top 48)) q) W) (hp : PassesOwn (model P w) q.A (enX (defScope (top 48)) q) q.xe) :
    PFSs (tx K ct) (mkX P w K mg base N_root_of (defScope (top 48)) q) W (defBody (top 48)) S_root_of :=
  have C : Cn (tx K ct) (mkX P w K mg base N_root_of (defScope (top 48)) q) W 1 := ⟨rfl, hr, tk, rfl, sc_root_of.nd⟩
  (pfs_cons (pfs_set (i := 1) C.nd (pf_sub (pf_callB (b_len C) len_ok B.g_len bt_len (pfa_cons (pf_var 0) pfa_nil)) (pf_ix C.hK (pf_callD false hD_borders C (pfa_cons (pf_var 0) pfa_nil) (len_cons len_nil)) (pf_neg pf_int)))) (pfs_cons (pfs_if (pft_cmp (o_ne C) ne_ok eqX_bl (pf_mod (pf_callB (b_len C) len_ok B.g_len bt_len (pfa_cons (pf_var 0) pfa_nil)) (pf_var 1)) pf_int (nomark _)) (pfs_one (pfs_ret (pf_tup (pfa_cons (pf_var 0) (pfa_cons pf_int pfa_nil))))) pfs_nil) (pfs_one (pfs_ret (pf_tup (pfa_cons (pf_slice false C.hK (pf_var 0) pfo_none (pfo_some (pf_var 1))) (pfa_cons (pf_fdiv (pf_callB (b_len C) len_ok B.g_len bt_len (pfa_cons (pf_var 0) pfa_nil)) (pf_var 1)) pfa_nil)))))))
/-! turned_word -/
def N_turned_word : List Str := ["word", "by", "at"]
def P_turned_word : List Str := ["word", "by"]
def S_turned_word : FS := (seqS (setS 2 (op2F modX (varF 1) (callBF lenX (consA (varF 0) nilA)))) (retS (op2F (addX false) (slF false (varF 0) (intF (varF 2)) (litF .non)) (slF false (varF 0) (litF .non) (intF (varF 2))))))
def F_turned_word : Fn := bodyF 1 S_turned_word
theorem sc_turned_word : FnScope N_turned_word P_turned_word (defScope (top 49)) := ⟨rfl, rfl, rfl, by decide +kernel, rfl, by decide +kernel, by decide +kernel⟩
theorem b_turned_word (B : Tb P K mg ct) (q : Qx) (W : WX) (hr : RoomG 0 q.A) (tk : Takes (mkX P w K mg base N_turned_word (defScope (top 49)) q) W) (hp : PassesOwn (model P w) q.A (enX (defScope (top 49)) q) q.xe) :
    PFSs (tx K ct) (mkX P w K mg base N_turned_word (defScope (top 49)) q) W (defBody (top 49)) S_turned_word :=
  have C : Cn (tx K ct) (mkX P w K mg base N_turned_word (defScope (top 49)) q) W 0 := ⟨rfl, hr, tk, rfl, sc_turned_word.nd⟩
  (pfs_cons (pfs_set (i := 2) C.nd (pf_mod (pf_var 1) (pf_callB (b_len C) len_ok B.g_len bt_len (pfa_cons (pf_var 0) pfa_nil)))) (pfs_one (pfs_ret (pf_add false C.hK (pf_slice false C.hK (pf_var 0) (pfo_some (pf_var 2)) pfo_none) (pf_slice false C.hK (pf_var 0) pfo_none (pfo_some (pf_var 2)))))))
/-! row_from -/
def N_row_from : List Str := ["word", "start", "many"]
def P_row_from : List Str := ["word", "start", "many"]
def S_row_from : FS := (retS (slF false (op2F (mulTX false) (callF false F_turned_word [] (consA (varF 0) (consA (varF 1) nilA))) (op2F (addX false) (op2F fdivX (varF 2) (callBF lenX (consA (varF 0) nilA))) (litF (.int 1)))) (litF .non) (intF (varF 2))))
def F_row_from : Fn := bodyF 0 S_row_from
theorem sc_row_from : FnScope N_row_from P_row_from (defScope (top 50)) := ⟨rfl, rfl, rfl, by decide +kernel, rfl, by decide +kernel, by decide +kernel⟩
theorem b_row_from (B : Tb P K mg ct) (hD_turned_word : Def (tx K ct) P w K mg base 1 "turned_word" ["word", "by"] [] F_turned_word) (q : Qx) (W : WX) (hr : RoomG 1 q.A) (tk : Takes (mkX P w K mg base N_row_from (defScope (top 50)) q) W) (hp : PassesOwn (model P w) q.A (enX (defScope (top 50)) q) q.xe) :
    PFSs (tx K ct) (mkX P w K mg base N_row_from (defScope (top 50)) q) W (defBody (top 50)) S_row_from :=
  have C : Cn (tx K ct) (mkX P w K mg base N_row_from (defScope (top 50)) q) W 1 := ⟨rfl, hr, tk, rfl, sc_row_from.nd⟩
  (pfs_one (pfs_ret (pf_slice false C.hK (pf_mulT false C.hK (pf_callD false hD_turned_word C (pfa_cons (pf_var 0) (pfa_cons (pf_var 1) pfa_nil)) (len_cons (len_cons len_nil))) (pf_add false C.hK (pf_fdiv (pf_var 2) (pf_callB (b_len C) len_ok B.g_len bt_len (pfa_cons (pf_var 0) pfa_nil))) pf_int)) pfo_none (pfo_some (pf_var 2)))))
/-! start_of -/
def N_start_of : List Str := ["one", "other", "many"]
def P_start_of : List Str := ["one", "other"]
def B0_start_of : FS := (setS 2 (op2F (addX false) (varF 2) (litF (.int 1))))
def S_start_of : FS := (seqS (setS 2 (litF (.int 0))) (seqS (whileS (fun (ρ : Env') (_ : Sto) => match ρ[0]? with | some (some (Xv.d (D.str z))) => z.length + 1 | _ => 0) (andF (op2F (ltX) (varF 2) (callBF lenX (consA (varF 0) nilA))) (andF (op2F (ltX) (varF 2) (callBF lenX (consA (varF 1) nilA))) (op2F (eqX false) (op2F ixX (varF 0) (varF 2)) (op2F ixX (varF 1) (varF 2))))) B0_start_of) (retS (varF 2))))
def F_start_of : Fn := bodyF 1 S_start_of
theorem sc_start_of : FnScope N_start_of P_start_of (defScope (top 51)) := ⟨rfl, rfl, rfl, by decide +kernel, rfl, by decide +kernel, by decide +kernel⟩
theorem b_start_of (B : Tb P K mg ct) (q : Qx) (W : WX) (hr : RoomG 0 q.A) (tk : Takes (mkX P w K mg base N_start_of (defScope (top 51)) q) W) (hp : PassesOwn (model P w) q.A (enX (defScope (top 51)) q) q.xe) :
    PFSs (tx K ct) (mkX P w K mg base N_start_of (defScope (top 51)) q) W (defBody (top 51)) S_start_of :=
  have C : Cn (tx K ct) (mkX P w K mg base N_start_of (defScope (top 51)) q) W 0 := ⟨rfl, hr, tk, rfl, sc_start_of.nd⟩
  (pfs_cons (pfs_set (i := 2) C.nd pf_int) (pfs_cons (pfs_while (fun (ρ : Env') (_ : Sto) => match ρ[0]? with | some (some (Xv.d (D.str z))) => z.length + 1 | _ => 0) hp (pft_w (pfw_and (pft_cmp op_lt int2B_ok int2_bl (pf_var 2) (pf_callB (b_len C) len_ok B.g_len bt_len (pfa_cons (pf_var 0) pfa_nil)) (nomark _)) (pfw_and (pft_cmp op_lt int2B_ok int2_bl (pf_var 2) (pf_callB (b_len C) len_ok B.g_len bt_len (pfa_cons (pf_var 1) pfa_nil)) (nomark _)) (pfw_and1 (pft_cmp (o_eq C) eq_ok eqX_bl (pf_ix C.hK (pf_var 0) (pf_var 2)) (pf_ix C.hK (pf_var 1) (pf_var 2)) (nomark _)))))) (pfs_one (pfs_set (i := 2) C.nd (pf_add false C.hK (pf_var 2) pf_int)))) (pfs_one (pfs_ret (pf_var 2)))))
/-! end_of_row -/
def N_end_of_row : List Str := ["word", "text"]
def P_end_of_row : List Str := ["word", "text"]
def S_end_of_row : FS := (retS (callF false F_start_of [] (consA (callF false F_row_from [] (consA (revF (varF 0)) (consA (litF (.int 0)) (consA (callBF lenX (consA (varF 1) nilA)) nilA)))) (consA (revF (varF 1)) nilA))))
def F_end_of_row : Fn := bodyF 0 S_end_of_row
theorem sc_end_of_row : FnScope N_end_of_row P_end_of_row (defScope (top 52)) := ⟨rfl, rfl, rfl, by decide +kernel, rfl, by decide +kernel, by decide +kernel⟩
theorem b_end_of_row (B : Tb P K mg ct) (hD_start_of : Def (tx K ct) P w K mg base 1 "start_of" ["one", "other"] [] F_start_of) (hD_row_from : Def (tx K ct) P w K mg base 2 "row_from" ["word", "start", "many"] [] F_row_from) (q : Qx) (W : WX) (hr : RoomG 2 q.A) (tk : Takes (mkX P w K mg base N_end_of_row (defScope (top 52)) q) W) (hp : PassesOwn (model P w) q.A (enX (defScope (top 52)) q) q.xe) :
    PFSs (tx K ct) (mkX P w K mg base N_end_of_row (defScope (top 52)) q) W (defBody (top 52)) S_end_of_row :=
  have C : Cn (tx K ct) (mkX P w K mg base N_end_of_row (defScope (top 52)) q) W 2 := ⟨rfl, hr, tk, rfl, sc_end_of_row.nd⟩
  (pfs_one (pfs_ret (pf_callD false hD_start_of C (pfa_cons (pf_callD false hD_row_from C (pfa_cons (pf_rev (pf_var 0)) (pfa_cons pf_int (pfa_cons (pf_callB (b_len C) len_ok B.g_len bt_len (pfa_cons (pf_var 1) pfa_nil)) pfa_nil))) (len_cons (len_cons (len_cons len_nil)))) (pfa_cons (pf_rev (pf_var 1)) pfa_nil)) (len_cons (len_cons len_nil)))))
/-! is_piece -/
def N_is_piece : List Str := ["many", "value"]
def P_is_piece : List Str := ["many", "value"]
def S_is_piece : FS := (seqS (ifS (orF (notF (callBF (isEV nC subB ownB exB) (consA (varF 1) (consA (litF (.ty "tuple")) nilA)))) (op2F (eqX true) (callBF lenX (consA (varF 1) nilA)) (litF (.int 2)))) (retS (litF (.bl false))) skipS) (retS (andF (callF false F_is_letters [] (consA (op2F ixX (varF 1) (litF (.int 0))) (consA (litF (.int 2000)) nilA))) (callF false F_is_form_for [] (consA (varF 0) (consA (op2F ixX (varF 1) (litF (.int 1))) nilA))))))
def F_is_piece : Fn := bodyF 0 S_is_piece
theorem sc_is_piece : FnScope N_is_piece P_is_piece (defScope (top 57)) := ⟨rfl, rfl, rfl, by decide +kernel, rfl, by decide +kernel, by decide +kernel⟩
theorem b_is_piece (B : Tb P K mg ct) (hD_is_letters : Def (tx K ct) P w K mg base 1 "is_letters" ["value", "most"] [] F_is_letters) (hD_is_form_for : Def (tx K ct) P w K mg base 4 "is_form_for" ["many", "value"] [] F_is_form_for) (q : Qx) (W : WX) (hr : RoomG 4 q.A) (tk : Takes (mkX P w K mg base N_is_piece (defScope (top 57)) q) W) (hp : PassesOwn (model P w) q.A (enX (defScope (top 57)) q) q.xe) :
    PFSs (tx K ct) (mkX P w K mg base N_is_piece (defScope (top 57)) q) W (defBody (top 57)) S_is_piece :=
  have C : Cn (tx K ct) (mkX P w K mg base N_is_piece (defScope (top 57)) q) W 4 := ⟨rfl, hr, tk, rfl, sc_is_piece.nd⟩
  (pfs_cons (pfs_if (pft_w (pfw_or (pft_not (pft_of C.hK (pf_callB (b_isi C) (isEV_ok B.txo B.tew) B.g_isinstance bt_isinstance (pfa_cons (pf_var 1) (pfa_cons (pf_ty B.g_tuple bt_tuple) pfa_nil))))) (pfw_or1 (pft_cmp (o_ne C) ne_ok eqX_bl (pf_callB (b_len C) len_ok B.g_len bt_len (pfa_cons (pf_var 1) pfa_nil)) pf_int (nomark _))))) (pfs_one (pfs_ret pf_bl)) pfs_nil) (pfs_one (pfs_ret (pf_and (pf_callD false hD_is_letters C (pfa_cons (pf_ix C.hK (pf_var 1) pf_int) (pfa_cons (pf_gint B.c_MOST_PIECE_LETTERS.choose_spec) pfa_nil)) (len_cons (len_cons len_nil))) (pf_one (pf_callD false hD_is_form_for C (pfa_cons (pf_var 0) (pfa_cons (pf_ix C.hK (pf_var 1) pf_int) pfa_nil)) (len_cons (len_cons len_nil))))))))
/-! measure -/
def N_measure : List Str := ["pieces", "word", "form"]
def P_measure : List Str := ["pieces"]
def E0_measure : FE := (op2F (mulTX false) (callBF lenX (consA (varF 1) nilA)) (op2F (addX false) (op2F ixX (varF 2) (litF (.int 0))) (callBF intX (consA (callF false F_is_open_form [] (consA (varF 2) nilA)) nilA))))
def S_measure : FS := (retS (callBF sumTX (consA (lcF false [1, 2] (tupG 2 (consG (nameG 1) (consG (nameG 2) nilG))) (iterF (varF 0)) yesF E0_measure) nilA)))
def F_measure : Fn := bodyF 2 S_measure
theorem sc_measure : FnScope N_measure P_measure (defScope (top 58)) := ⟨rfl, rfl, rfl, by decide +kernel, rfl, by decide +kernel, by decide +kernel⟩
theorem b_measure (B : Tb P K mg ct) (hD_is_open_form : Def (tx K ct) P w K mg base 1 "is_open_form" ["form"] [] F_is_open_form) (q : Qx) (W : WX) (hr : RoomG 1 q.A) (tk : Takes (mkX P w K mg base N_measure (defScope (top 58)) q) W) (hp : PassesOwn (model P w) q.A (enX (defScope (top 58)) q) q.xe) :
    PFSs (tx K ct) (mkX P w K mg base N_measure (defScope (top 58)) q) W (defBody (top 58)) S_measure :=
  have C : Cn (tx K ct) (mkX P w K mg base N_measure (defScope (top 58)) q) W 1 := ⟨rfl, hr, tk, rfl, sc_measure.nd⟩
  (pfs_one (pfs_ret (pf_callB (b_sumT C) sumT_ok B.g_sum bt_sum (pfa_cons (pf_lc (own := [("word", 1), ("form", 2)]) false C.calm C.nd (pfi_seq C.hK (pf_var 0)) (blkOk_by (by first | decide +kernel | rfl)) (fun _ _ _ _ _ => (pfg_tup (Cn.blk C _ _ _ _ _).hK (Cn.blk C _ _ _ _ _).calm (pfgs_cons (pfg_name (i := 1) (Cn.blk C _ _ _ _ _).nd) (pfgs_cons (pfg_name (i := 2) (Cn.blk C _ _ _ _ _).nd) pfgs_nil)))) (fun _ _ _ _ _ => pts_yes) (fun _ _ _ _ _ => (pf_mulT false (Cn.blk C _ _ _ _ _).hK (pf_callB (b_len (Cn.blk C _ _ _ _ _)) len_ok B.g_len bt_len (pfa_cons (pf_var 1) pfa_nil)) (pf_add false (Cn.blk C _ _ _ _ _).hK (pf_ix (Cn.blk C _ _ _ _ _).hK (pf_var 2) pf_int) (pf_callTy (b_int (Cn.blk C _ _ _ _ _)) int_ok B.g_int bt_int (pfa_cons (pf_callD false hD_is_open_form (Cn.blk C _ _ _ _ _) (pfa_cons (pf_var 2) pfa_nil) (len_cons len_nil)) pfa_nil)))))) pfa_nil))))
/-! check_pieces -/
def N_check_pieces : List Str := ["many", "pieces", "item"]
def P_check_pieces : List Str := ["many", "pieces"]
def B0_check_pieces : FS := (ifS (notF (callF false F_is_piece [] (consA (varF 0) (consA (varF 2) nilA)))) (raiseS 22 (varF 2)) skipS)
def S_check_pieces : FS := (seqS (exprS (callF false F_check_many [] (consA (varF 0) nilA))) (seqS (ifS (orF (notF (callBF (isEV nC subB ownB exB) (consA (varF 1) (consA (litF (.ty "list")) nilA)))) (op2F (gtX) (callBF lenX (consA (varF 1) nilA)) (litF (.int 5000)))) (raiseS 5 (varF 1)) skipS) (seqS (forS (nameG 2) (iterF (varF 1)) B0_check_pieces) (ifS (op2F (gtX) (callF false F_measure [] (consA (varF 1) nilA)) (litF (.int 2000))) (raiseS 24 (callF false F_measure [] (consA (varF 1) nilA))) skipS))))
def F_check_pieces : Fn := bodyF 1 S_check_pieces
theorem sc_check_pieces : FnScope N_check_pieces P_check_pieces (defScope (top 59)) := ⟨rfl, rfl, rfl, by decide +kernel, rfl, by decide +kernel, by decide +kernel⟩
theorem b_check_pieces (B : Tb P K mg ct) (hD_check_many : Def (tx K ct) P w K mg base 4 "check_many" ["many"] [] F_check_many) (hD_is_piece : Def (tx K ct) P w K mg base 5 "is_piece" ["many", "value"] [] F_is_piece) (hD_measure : Def (tx K ct) P w K mg base 2 "measure" ["pieces"] [] F_measure) (q : Qx) (W : WX) (hr : RoomG 5 q.A) (tk : Takes (mkX P w K mg base N_check_pieces (defScope (top 59)) q) W) (hp : PassesOwn (model P w) q.A (enX (defScope (top 59)) q) q.xe) :
    PFSs (tx K ct) (mkX P w K mg base N_check_pieces (defScope (top 59)) q) W (defBody (top 59)) S_check_pieces :=
  have C : Cn (tx K ct) (mkX P w K mg base N_check_pieces (defScope (top 59)) q) W 5 := ⟨rfl, hr, tk, rfl, sc_check_pieces.nd⟩
  (pfs_cons (pfs_expr (pf_callD false hD_check_many C (pfa_cons (pf_var 0) pfa_nil) (len_cons len_nil))) (pfs_cons (pfs_if (pft_w (pfw_or (pft_not (pft_of C.hK (pf_callB (b_isi C) (isEV_ok B.txo B.tew) B.g_isinstance bt_isinstance (pfa_cons (pf_var 1) (pfa_cons (pf_ty B.g_list bt_list) pfa_nil))))) (pfw_or1 (pft_cmp op_gt int2B_ok int2_bl (pf_callB (b_len C) len_ok B.g_len bt_len (pfa_cons (pf_var 1) pfa_nil)) (pf_gint B.c_MOST_PIECES.choose_spec) (nomark _))))) (pfs_one (pfs_raise (c := 5) C.calm B.e_InvalidPieces.choose_spec rfl C.hr C.tk B.m_InvalidPieces B.g_super (pf_var 1))) pfs_nil) (pfs_cons (pfs_for hp C.calm (pfi_seq C.hK (pf_var 1)) (pfg_name (i := 2) C.nd) (pfs_one (pfs_if (pft_not (pft_of C.hK (pf_callD false hD_is_piece C (pfa_cons (pf_var 0) (pfa_cons (pf_var 2) pfa_nil)) (len_cons (len_cons len_nil))))) (pfs_one (pfs_raise (c := 22) C.calm B.e_InvalidPiece.choose_spec rfl C.hr C.tk B.m_InvalidPiece B.g_super (pf_var 2))) pfs_nil))) (pfs_one (pfs_if (pft_cmp op_gt int2B_ok int2_bl (pf_callD false hD_measure C (pfa_cons (pf_var 1) pfa_nil) (len_cons len_nil)) (pf_gint B.c_MOST_MEASURE.choose_spec) (nomark _)) (pfs_one (pfs_raise (c := 24) C.calm B.e_TooLong.choose_spec rfl C.hr C.tk B.m_TooLong B.g_super (pf_callD false hD_measure C (pfa_cons (pf_var 1) pfa_nil) (len_cons len_nil)))) pfs_nil)))))
/-! push_word -/
def N_push_word : List Str := ["stack", "word", "fixed"]
def P_push_word : List Str := ["stack", "word", "fixed"]
def S_push_word : FS := (ifS (op2F (eqX true) (varF 1) (litF (.str ""))) (ifS (andF (op2F (eqX true) (varF 0) (lstF false nilA)) (op2F (eqX false) (op2F ixX (op2F ixX (varF 0) (negF (litF (.int 1)))) (litF (.int 1))) (varF 2))) (setIxS (tupF (consA (op2F (addX false) (op2F ixX (op2F ixX (varF 0) (negF (litF (.int 1)))) (litF (.int 0))) (varF 1)) (consA (varF 2) nilA))) (varF 0) (negF (litF (.int 1)))) (exprS (appF (varF 0) (consA (tupF (consA (varF 1) (consA (varF 2) nilA))) nilA)))) skipS)
def F_push_word : Fn := bodyF 0 S_push_word
theorem sc_push_word : FnScope N_push_word P_push_word (defScope (top 60)) := ⟨rfl, rfl, rfl, by decide +kernel, rfl, by decide +kernel, by decide +kernel⟩
theorem b_push_word (B : Tb P K mg ct) (q : Qx) (W : WX) (hr : RoomG 0 q.A) (tk : Takes (mkX P w K mg base N_push_word (defScope (top 60)) q) W) (hp : PassesOwn (model P w) q.A (enX (defScope (top 60)) q) q.xe) :
    PFSs (tx K ct) (mkX P w K mg base N_push_word (defScope (top 60)) q) W (defBody (top 60)) S_push_word :=
  have C : Cn (tx K ct) (mkX P w K mg base N_push_word (defScope (top 60)) q) W 0 := ⟨rfl, hr, tk, rfl, sc_push_word.nd⟩
  (pfs_one (pfs_if (pft_cmp (o_ne C) ne_ok eqX_bl (pf_var 1) pf_str (nomark _)) (pfs_one (pfs_if (pft_w (pfw_and (pft_cmp (o_ne C) ne_ok eqX_bl (pf_var 0) (pf_lst false pfa_nil) (nomark _)) (pfw_and1 (pft_cmp (o_eq C) eq_ok eqX_bl (pf_ix C.hK (pf_ix C.hK (pf_var 0) (pf_neg pf_int)) pf_int) (pf_var 2) (nomark _))))) (pfs_one (pfs_setIx (pf_tup (pfa_cons (pf_add false C.hK (pf_ix C.hK (pf_ix C.hK (pf_var 0) (pf_neg pf_int)) pf_int) (pf_var 1)) (pfa_cons (pf_var 2) pfa_nil))) (pf_var 0) (pf_neg pf_int))) (pfs_one (pfs_expr (pf_append C.hK (pf_var 0) (pfa_cons (pf_tup (pfa_cons (pf_var 1) (pfa_cons (pf_var 2) pfa_nil))) pfa_nil)))))) pfs_nil))
/-! push_power -/
def N_push_power : List Str := ["stack", "word", "form", "fixed", "carried", "ahead", "by"]
def P_push_power : List Str := ["stack", "word", "form", "fixed"]
def S_push_power : FS := (seqS (setS 4 (litF (.str ""))) (seqS (ifS (andF (op2F (eqX true) (varF 0) (lstF false nilA)) (op2F (eqX false) (op2F ixX (op2F ixX (varF 0) (negF (litF (.int 1)))) (litF (.int 1))) (varF 3))) (seqS (setS 5 (op2F ixX (popF (varF 0)) (litF (.int 0)))) (seqS (setS 6 (callF false F_end_of_row [] (consA (varF 1) (consA (varF 5) nilA)))) (seqS (par2S 4 1 (consA (slF false (varF 5) (intF (op2F subX (callBF lenX (consA (varF 5) nilA)) (varF 6))) (litF .non)) (consA (callF false F_turned_word [] (consA (varF 1) (consA (op2F subX (callBF lenX (consA (varF 1) nilA)) (op2F modX (varF 6) (callBF lenX (consA (varF 1) nilA)))) nilA))) nilA))) (exprS (callF false F_push_word [] (consA (varF 0) (consA (slF false (varF 5) (litF .non) (intF (op2F subX (callBF lenX (consA (varF 5) nilA)) (varF 6)))) (consA (varF 3) nilA)))))))) skipS) (seqS (ifS (andF (op2F (eqX true) (varF 0) (lstF false nilA)) (andF (op2F (eqX true) (op2F ixX (op2F ixX (varF 0) (negF (litF (.int 1)))) (litF (.int 1))) (varF 3)) (op2F (eqX false) (op2F ixX (op2F ixX (varF 0) (negF (litF (.int 1)))) (litF (.int 0))) (varF 1)))) (setIxS (tupF (consA (varF 1) (consA (callF false F_form_sum [] (consA (op2F ixX (op2F ixX (varF 0) (negF (litF (.int 1)))) (litF (.int 1))) (consA (varF 2) nilA))) nilA))) (varF 0) (negF (litF (.int 1)))) (exprS (appF (varF 0) (consA (tupF (consA (varF 1) (consA (varF 2) nilA))) nilA)))) (exprS (callF false F_push_word [] (consA (varF 0) (consA (varF 4) (consA (varF 3) nilA))))))))
def F_push_power : Fn := bodyF 3 S_push_power
theorem sc_push_power : FnScope N_push_power P_push_power (defScope (top 61)) := ⟨rfl, rfl, rfl, by decide +kernel, rfl, by decide +kernel, by decide +kernel⟩
theorem b_push_power (B : Tb P K mg ct) (hD_end_of_row : Def (tx K ct) P w K mg base 3 "end_of_row" ["word", "text"] [] F_end_of_row) (hD_turned_word : Def (tx K ct) P w K mg base 1 "turned_word" ["word", "by"] [] F_turned_word) (hD_push_word : Def (tx K ct) P w K mg base 1 "push_word" ["stack", "word", "fixed"] [] F_push_word) (hD_form_sum : Def (tx K ct) P w K mg base 1 "form_sum" ["one", "other"] [] F_form_sum) (q : Qx) (W : WX) (hr : RoomG 3 q.A) (tk : Takes (mkX P w K mg base N_push_power (defScope (top 61)) q) W) (hp : PassesOwn (model P w) q.A (enX (defScope (top 61)) q) q.xe) :
    PFSs (tx K ct) (mkX P w K mg base N_push_power (defScope (top 61)) q) W (defBody (top 61)) S_push_power :=
  have C : Cn (tx K ct) (mkX P w K mg base N_push_power (defScope (top 61)) q) W 3 := ⟨rfl, hr, tk, rfl, sc_push_power.nd⟩
  (pfs_cons (pfs_set (i := 4) C.nd pf_str) (pfs_cons (pfs_if (pft_w (pfw_and (pft_cmp (o_ne C) ne_ok eqX_bl (pf_var 0) (pf_lst false pfa_nil) (nomark _)) (pfw_and1 (pft_cmp (o_eq C) eq_ok eqX_bl (pf_ix C.hK (pf_ix C.hK (pf_var 0) (pf_neg pf_int)) pf_int) (pf_var 3) (nomark _))))) (pfs_cons (pfs_set (i := 5) C.nd (pf_ix C.hK (pf_pop C.hK (pf_var 0)) pf_int)) (pfs_cons (pfs_set (i := 6) C.nd (pf_callD false hD_end_of_row C (pfa_cons (pf_var 1) (pfa_cons (pf_var 5) pfa_nil)) (len_cons (len_cons len_nil)))) (pfs_cons (pfs_par2 (i := 4) (j := 1) C.calm C.nd (pfa_cons (pf_slice false C.hK (pf_var 5) (pfo_some (pf_sub (pf_callB (b_len C) len_ok B.g_len bt_len (pfa_cons (pf_var 5) pfa_nil)) (pf_var 6))) pfo_none) (pfa_cons (pf_callD false hD_turned_word C (pfa_cons (pf_var 1) (pfa_cons (pf_sub (pf_callB (b_len C) len_ok B.g_len bt_len (pfa_cons (pf_var 1) pfa_nil)) (pf_mod (pf_var 6) (pf_callB (b_len C) len_ok B.g_len bt_len (pfa_cons (pf_var 1) pfa_nil)))) pfa_nil)) (len_cons (len_cons len_nil))) pfa_nil))) (pfs_one (pfs_expr (pf_callD false hD_push_word C (pfa_cons (pf_var 0) (pfa_cons (pf_slice false C.hK (pf_var 5) pfo_none (pfo_some (pf_sub (pf_callB (b_len C) len_ok B.g_len bt_len (pfa_cons (pf_var 5) pfa_nil)) (pf_var 6)))) (pfa_cons (pf_var 3) pfa_nil))) (len_cons (len_cons (len_cons len_nil))))))))) pfs_nil) (pfs_cons (pfs_if (pft_w (pfw_and (pft_cmp (o_ne C) ne_ok eqX_bl (pf_var 0) (pf_lst false pfa_nil) (nomark _)) (pfw_and (pft_cmp (o_ne C) ne_ok eqX_bl (pf_ix C.hK (pf_ix C.hK (pf_var 0) (pf_neg pf_int)) pf_int) (pf_var 3) (nomark _)) (pfw_and1 (pft_cmp (o_eq C) eq_ok eqX_bl (pf_ix C.hK (pf_ix C.hK (pf_var 0) (pf_neg pf_int)) pf_int) (pf_var 1) (nomark _)))))) (pfs_one (pfs_setIx (pf_tup (pfa_cons (pf_var 1) (pfa_cons (pf_callD false hD_form_sum C (pfa_cons (pf_ix C.hK (pf_ix C.hK (pf_var 0) (pf_neg pf_int)) pf_int) (pfa_cons (pf_var 2) pfa_nil)) (len_cons (len_cons len_nil))) pfa_nil))) (pf_var 0) (pf_neg pf_int))) (pfs_one (pfs_expr (pf_append C.hK (pf_var 0) (pfa_cons (pf_tup (pfa_cons (pf_var 1) (pfa_cons (pf_var 2) pfa_nil))) pfa_nil))))) (pfs_one (pfs_expr (pf_callD false hD_push_word C (pfa_cons (pf_var 0) (pfa_cons (pf_var 4) (pfa_cons (pf_var 3) pfa_nil))) (len_cons (len_cons (len_cons len_nil)))))))))
/-! normal_pieces -/
def N_normal_pieces : List Str := ["many", "pieces", "fixed", "stack", "word", "form", "part", "times"]
def P_normal_pieces : List Str := ["many", "pieces"]
def B0_normal_pieces : FS := (ifS (op2F (eqX true) (varF 4) (litF (.str ""))) (seqS (ifS (callF false F_is_open_form [] (consA (varF 5) nilA)) (seqS (asgS (tupG 2 (consG (nameG 6) (consG (nameG 7) nilG))) (callF false F_root_of [] (consA (varF 4) nilA))) (exprS (callF false F_push_power [] (consA (varF 3) (consA (varF 6) (consA (callF false F_form_times [] (consA (varF 7) (consA (op2F (addX false) (tupF (consA (litF (.int 0)) nilA)) (slF false (varF 5) (intF (litF (.int 1))) (litF .non))) nilA))) (consA (varF 2) nilA))))))) skipS) (exprS (callF false F_push_word [] (consA (varF 3) (consA (op2F (mulTX false) (varF 4) (op2F ixX (varF 5) (litF (.int 0)))) (consA (varF 2) nilA)))))) skipS)
def S_normal_pieces : FS := (seqS (par2S 2 3 (consA (callF false F_plain [] (consA (varF 0) (consA (litF (.int 1)) nilA))) (consA (lstF true nilA) nilA))) (seqS (forS (tupG 2 (consG (nameG 4) (consG (nameG 5) nilG))) (iterF (varF 1)) B0_normal_pieces) (retS (callBF tupleX (consA (varF 3) nilA)))))
def F_normal_pieces : Fn := bodyF 6 S_normal_pieces
theorem sc_normal_pieces : FnScope N_normal_pieces P_normal_pieces (defScope (top 62)) := ⟨rfl, rfl, rfl, by decide +kernel, rfl, by decide +kernel, by decide +kernel⟩
theorem b_normal_pieces (B : Tb P K mg ct) (hD_plain : Def (tx K ct) P w K mg base 1 "plain" ["many", "number"] [] F_plain) (hD_is_open_form : Def (tx K ct) P w K mg base 1 "is_open_form" ["form"] [] F_is_open_form) (hD_root_of : Def (tx K ct) P w K mg base 2 "root_of" ["word"] [] F_root_of) (hD_push_power : Def (tx K ct) P w K mg base 4 "push_power" ["stack", "word", "form", "fixed"] [] F_push_power) (hD_form_times : Def (tx K ct) P w K mg base 1 "form_times" ["number", "form"] [] F_form_times) (hD_push_word : Def (tx K ct) P w K mg base 1 "push_word" ["stack", "word", "fixed"] [] F_push_word) (q : Qx) (W : WX) (hr : RoomG 4 q.A) (tk : Takes (mkX P w K mg base N_normal_pieces (defScope (top 62)) q) W) (hp : PassesOwn (model P w) q.A (enX (defScope (top 62)) q) q.xe) :
    PFSs (tx K ct) (mkX P w K mg base N_normal_pieces (defScope (top 62)) q) W (defBody (top 62)) S_normal_pieces :=
  have C : Cn (tx K ct) (mkX P w K mg base N_normal_pieces (defScope (top 62)) q) W 4 := ⟨rfl, hr, tk, rfl, sc_normal_pieces.nd⟩
  (pfs_cons (pfs_par2 (i := 2) (j := 3) C.calm C.nd (pfa_cons (pf_callD false hD_plain C (pfa_cons (pf_var 0) (pfa_cons pf_int pfa_nil)) (len_cons (len_cons len_nil))) (pfa_cons (pf_lst true pfa_nil) pfa_nil))) (pfs_cons (pfs_for hp C.calm (pfi_seq C.hK (pf_var 1)) (pfg_tup C.hK C.calm (pfgs_cons (pfg_name (i := 4) C.nd) (pfgs_cons (pfg_name (i := 5) C.nd) pfgs_nil))) (pfs_one (pfs_if (pft_cmp (o_ne C) ne_ok eqX_bl (pf_var 4) pf_str (nomark _)) (pfs_cons (pfs_if (pft_of C.hK (pf_callD false hD_is_open_form C (pfa_cons (pf_var 5) pfa_nil) (len_cons len_nil))) (pfs_cons (pfs_asg (pf_callD false hD_root_of C (pfa_cons (pf_var 4) pfa_nil) (len_cons len_nil)) (pfg_tup C.hK C.calm (pfgs_cons (pfg_name (i := 6) C.nd) (pfgs_cons (pfg_name (i := 7) C.nd) pfgs_nil)))) (pfs_one (pfs_expr (pf_callD false hD_push_power C (pfa_cons (pf_var 3) (pfa_cons (pf_var 6) (pfa_cons (pf_callD false hD_form_times C (pfa_cons (pf_var 7) (pfa_cons (pf_add false C.hK (pf_tup (pfa_cons pf_int pfa_nil)) (pf_slice false C.hK (pf_var 5) (pfo_some pf_int) pfo_none)) pfa_nil)) (len_cons (len_cons len_nil))) (pfa_cons (pf_var 2) pfa_nil)))) (len_cons (len_cons (len_cons (len_cons len_nil)))))))) pfs_nil) (pfs_one (pfs_expr (pf_callD false hD_push_word C (pfa_cons (pf_var 3) (pfa_cons (pf_mulT false C.hK (pf_var 4) (pf_ix C.hK (pf_var 5) pf_int)) (pfa_cons (pf_var 2) pfa_nil))) (len_cons (len_cons (len_cons len_nil))))))) pfs_nil))) (pfs_one (pfs_ret (pf_callTy (b_tuple C) tuple_ok B.g_tuple bt_tuple (pfa_cons (pf_var 3) pfa_nil))))))
/-! OpenText___init__ -/
def N_OpenText___init__ : List Str := ["self", "many", "pieces"]
def P_OpenText___init__ : List Str := ["self", "many", "pieces"]
def S_OpenText___init__ : FS := (seqS (exprS (callF false F_check_pieces [] (consA (varF 1) (consA (varF 2) nilA)))) (seqS (setFldS ownB "_many" (varF 0) (varF 1)) (setFldS ownB "_pieces" (varF 0) (callF false F_normal_pieces [] (consA (varF 1) (consA (varF 2) nilA))))))
def F_OpenText___init__ : Fn := bodyF 0 S_OpenText___init__
theorem sc_OpenText___init__ : FnScope N_OpenText___init__ P_OpenText___init__ (defScope (mth 64 0)) := ⟨rfl, rfl, rfl, by decide +kernel, rfl, by decide +kernel, by decide +kernel⟩
theorem b_OpenText___init__ (B : Tb P K mg ct) (hD_check_pieces : Def (tx K ct) P w K mg base 6 "check_pieces" ["many", "pieces"] [] F_check_pieces) (hD_normal_pieces : Def (tx K ct) P w K mg base 5 "normal_pieces" ["many", "pieces"] [] F_normal_pieces) (q : Qx) (W : WX) (hr : RoomG 6 q.A) (tk : Takes (mkX P w K mg base N_OpenText___init__ (defScope (mth 64 0)) q) W) (hp : PassesOwn (model P w) q.A (enX (defScope (mth 64 0)) q) q.xe) :
    PFSs (tx K ct) (mkX P w K mg base N_OpenText___init__ (defScope (mth 64 0)) q) W (defBody (mth 64 0)) S_OpenText___init__ :=
  have C : Cn (tx K ct) (mkX P w K mg base N_OpenText___init__ (defScope (mth 64 0)) q) W 6 := ⟨rfl, hr, tk, rfl, sc_OpenText___init__.nd⟩
  (pfs_cons (pfs_expr (pf_callD false hD_check_pieces C (pfa_cons (pf_var 1) (pfa_cons (pf_var 2) pfa_nil)) (len_cons (len_cons len_nil)))) (pfs_cons (pfs_setFld B.tcl B.n__many C.hK (pf_var 1) (pf_var 0)) (pfs_one (pfs_setFld B.tcl B.n__pieces C.hK (pf_callD false hD_normal_pieces C (pfa_cons (pf_var 1) (pfa_cons (pf_var 2) pfa_nil)) (len_cons (len_cons len_nil))) (pf_var 0)))))
/-! OpenText_many -/
def N_OpenText_many : List Str := ["self"]
def P_OpenText_many : List Str := ["self"]
def S_OpenText_many : FS := (retS (fldF ownB "_many" (varF 0)))
def F_OpenText_many : Fn := bodyF 0 S_OpenText_many
theorem sc_OpenText_many : FnScope N_OpenText_many P_OpenText_many (defScope (mth 64 1)) := ⟨rfl, rfl, rfl, by decide +kernel, rfl, by decide +kernel, by decide +kernel⟩
theorem b_OpenText_many (B : Tb P K mg ct) (q : Qx) (W : WX) (hr : RoomG 0 q.A) (tk : Takes (mkX P w K mg base N_OpenText_many (defScope (mth 64 1)) q) W) (hp : PassesOwn (model P w) q.A (enX (defScope (mth 64 1)) q) q.xe) :
    PFSs (tx K ct) (mkX P w K mg base N_OpenText_many (defScope (mth 64 1)) q) W (defBody (mth 64 1)) S_OpenText_many :=
  have C : Cn (tx K ct) (mkX P w K mg base N_OpenText_many (defScope (mth 64 1)) q) W 0 := ⟨rfl, hr, tk, rfl, sc_OpenText_many.nd⟩
  (pfs_one (pfs_ret (pf_fld B.tcl B.n__many C.hK (pf_var 0))))
/-! OpenText_pieces -/
def N_OpenText_pieces : List Str := ["self"]
def P_OpenText_pieces : List Str := ["self"]
def S_OpenText_pieces : FS := (retS (callBF (listX false) (consA (fldF ownB "_pieces" (varF 0)) nilA)))
def F_OpenText_pieces : Fn := bodyF 0 S_OpenText_pieces
theorem sc_OpenText_pieces : FnScope N_OpenText_pieces P_OpenText_pieces (defScope (mth 64 2)) := ⟨rfl, rfl, rfl, by decide +kernel, rfl, by decide +kernel, by decide +kernel⟩
theorem b_OpenText_pieces (B : Tb P K mg ct) (q : Qx) (W : WX) (hr : RoomG 0 q.A) (tk : Takes (mkX P w K mg base N_OpenText_pieces (defScope (mth 64 2)) q) W) (hp : PassesOwn (model P w) q.A (enX (defScope (mth 64 2)) q) q.xe) :
    PFSs (tx K ct) (mkX P w K mg base N_OpenText_pieces (defScope (mth 64 2)) q) W (defBody (mth 64 2)) S_OpenText_pieces :=
  have C : Cn (tx K ct) (mkX P w K mg base N_OpenText_pieces (defScope (mth 64 2)) q) W 0 := ⟨rfl, hr, tk, rfl, sc_OpenText_pieces.nd⟩
  (pfs_one (pfs_ret (pf_callTy (b_list C) (list_ok (m := false)) B.g_list bt_list (pfa_cons (pf_fld B.tcl B.n__pieces C.hK (pf_var 0)) pfa_nil))))
/-! OpenText___eq__ -/
def N_OpenText___eq__ : List Str := ["self", "other"]
def P_OpenText___eq__ : List Str := ["self", "other"]
def S_OpenText___eq__ : FS := (seqS (ifS (notF (callBF (isEV nC subB ownB exB) (consA (varF 1) (consA (litF (.cls 30)) nilA)))) (retS (litF (.bl false))) skipS) (retS (andF (op2F (eqX false) (fldF ownB "_many" (varF 0)) (fldF ownB "_many" (varF 1))) (op2F (eqX false) (fldF ownB "_pieces" (varF 0)) (fldF ownB "_pieces" (varF 1))))))
def F_OpenText___eq__ : Fn := bodyF 0 S_OpenText___eq__
theorem sc_OpenText___eq__ : FnScope N_OpenText___eq__ P_OpenText___eq__ (defScope (mth 64 3)) := ⟨rfl, rfl, rfl, by decide +kernel, rfl, by decide +kernel, by decide +kernel⟩
theorem b_OpenText___eq__ (B : Tb P K mg ct) (q : Qx) (W : WX) (hr : RoomG 0 q.A) (tk : Takes (mkX P w K mg base N_OpenText___eq__ (defScope (mth 64 3)) q) W) (hp : PassesOwn (model P w) q.A (enX (defScope (mth 64 3)) q) q.xe) :
    PFSs (tx K ct) (mkX P w K mg base N_OpenText___eq__ (defScope (mth 64 3)) q) W (defBody (mth 64 3)) S_OpenText___eq__ :=
  have C : Cn (tx K ct) (mkX P w K mg base N_OpenText___eq__ (defScope (mth 64 3)) q) W 0 := ⟨rfl, hr, tk, rfl, sc_OpenText___eq__.nd⟩
  (pfs_cons (pfs_if (pft_not (pft_of C.hK (pf_callB (b_isi C) (isEV_ok B.txo B.tew) B.g_isinstance bt_isinstance (pfa_cons (pf_var 1) (pfa_cons (pf_gcls 30 B.m_OpenText) pfa_nil))))) (pfs_one (pfs_ret pf_bl)) pfs_nil) (pfs_one (pfs_ret (pf_and (pf_cmp (o_eq C) eq_ok (pf_fld B.tcl B.n__many C.hK (pf_var 0)) (pf_fld B.tcl B.n__many C.hK (pf_var 1)) (nomark _)) (pf_one (pf_cmp (o_eq C) eq_ok (pf_fld B.tcl B.n__pieces C.hK (pf_var 0)) (pf_fld B.tcl B.n__pieces C.hK (pf_var 1)) (nomark _)))))))
/-! _law_hash -/
def N__law_hash : List Str := ["_law_seed", "_law_index", "_law_mixed"]
def P__law_hash : List Str := ["_law_seed", "_law_index"]
def S__law_hash : FS := (seqS (setS 2 (op2F modX (callBF intX (consA (op2F (addX false) (op2F (addX false) (op2F (addX false) (op2F (mulTX false) (varF 0) (litF (.int 1299709))) (op2F (mulTX false) (op2F (mulTX false) (litF (.int 104729)) (varF 1)) (varF 1))) (op2F (mulTX false) (litF (.int 31)) (varF 1))) (litF (.int 7))) nilA)) (litF (.int 2147483629)))) (seqS (setS 2 (op2F modX (callBF intX (consA (op2F (addX false) (op2F (addX false) (op2F (mulTX false) (varF 2) (varF 2)) (op2F (mulTX false) (litF (.int 48271)) (varF 1))) (litF (.int 15485863))) nilA)) (litF (.int 2147483587)))) (retS (op2F modX (callBF intX (consA (op2F (mulTX false) (varF 2) (litF (.int 69621))) nilA)) (litF (.int 2147483647))))))
def F__law_hash : Fn := bodyF 1 S__law_hash
theorem sc__law_hash : FnScope N__law_hash P__law_hash (defScope (top 66)) := ⟨rfl, rfl, rfl, by decide +kernel, rfl, by decide +kernel, by decide +kernel⟩
theorem b__law_hash (B : Tb P K mg ct) (q : Qx) (W : WX) (hr : RoomG 0 q.A) (tk : Takes (mkX P w K mg base N__law_hash (defScope (top 66)) q) W) (hp : PassesOwn (model P w) q.A (enX (defScope (top 66)) q) q.xe) :
    PFSs (tx K ct) (mkX P w K mg base N__law_hash (defScope (top 66)) q) W (defBody (top 66)) S__law_hash :=
  have C : Cn (tx K ct) (mkX P w K mg base N__law_hash (defScope (top 66)) q) W 0 := ⟨rfl, hr, tk, rfl, sc__law_hash.nd⟩
  (pfs_cons (pfs_set (i := 2) C.nd (pf_mod (pf_callTy (b_int C) int_ok B.g_int bt_int (pfa_cons (pf_add false C.hK (pf_add false C.hK (pf_add false C.hK (pf_mulT false C.hK (pf_var 0) pf_int) (pf_mulT false C.hK (pf_mulT false C.hK pf_int (pf_var 1)) (pf_var 1))) (pf_mulT false C.hK pf_int (pf_var 1))) pf_int) pfa_nil)) pf_int)) (pfs_cons (pfs_set (i := 2) C.nd (pf_mod (pf_callTy (b_int C) int_ok B.g_int bt_int (pfa_cons (pf_add false C.hK (pf_add false C.hK (pf_mulT false C.hK (pf_var 2) (pf_var 2)) (pf_mulT false C.hK pf_int (pf_var 1))) pf_int) pfa_nil)) pf_int)) (pfs_one (pfs_ret (pf_mod (pf_callTy (b_int C) int_ok B.g_int bt_int (pfa_cons (pf_mulT false C.hK (pf_var 2) pf_int) pfa_nil)) pf_int)))))
/-! _law_generator -/
def N__law_generator : List Str := ["_law_script", "_law_index", "_law_seed"]
def P__law_generator : List Str := ["_law_script", "_law_index"]
def S__law_generator : FS := (seqS (setS 2 (ifF (op2F (ltX) (varF 1) (callBF lenX (consA (varF 0) nilA))) (op2F ixX (varF 0) (varF 1)) (op2F modX (callBF sumTX (consA (slF false (varF 0) (litF .non) (intF (litF (.int 1)))) nilA)) (litF (.int 1000003))))) (retS (lstF true (consA (op2F modX (callBF intX (consA (callBF maxX (consA (op2F subX (varF 2) (op2F powX (litF (.int 10)) (litF (.int 18)))) (consA (litF (.int 0)) nilA))) nilA)) (op2F powX (op2F powX (litF (.int 10)) (litF (.int 60))) (litF (.int 10)))) (consA (op2F modX (callBF intX (consA (varF 2) nilA)) (litF (.int 2147483647))) (consA (op2F (mulTX false) (litF (.int 1000)) (varF 1)) nilA))))))
def F__law_generator : Fn := bodyF 1 S__law_generator
theorem sc__law_generator : FnScope N__law_generator P__law_generator (defScope (top 67)) := ⟨rfl, rfl, rfl, by decide +kernel, rfl, by decide +kernel, by decide +kernel⟩
theorem b__law_generator (B : Tb P K mg ct) (q : Qx) (W : WX) (hr : RoomG 0 q.A) (tk : Takes (mkX P w K mg base N__law_generator (defScope (top 67)) q) W) (hp : PassesOwn (model P w) q.A (enX (defScope (top 67)) q) q.xe) :
    PFSs (tx K ct) (mkX P w K mg base N__law_generator (defScope (top 67)) q) W (defBody (top 67)) S__law_generator :=
  have C : Cn (tx K ct) (mkX P w K mg base N__law_generator (defScope (top 67)) q) W 0 := ⟨rfl, hr, tk, rfl, sc__law_generator.nd⟩
  (pfs_cons (pfs_set (i := 2) C.nd (pf_if (pft_cmp op_lt int2B_ok int2_bl (pf_var 1) (pf_callB (b_len C) len_ok B.g_len bt_len (pfa_cons (pf_var 0) pfa_nil)) (nomark _)) (pf_ix C.hK (pf_var 0) (pf_var 1)) (pf_mod (pf_callB (b_sumT C) sumT_ok B.g_sum bt_sum (pfa_cons (pf_slice false C.hK (pf_var 0) pfo_none (pfo_some pf_int)) pfa_nil)) pf_int))) (pfs_one (pfs_ret (pf_lst true (pfa_cons (pf_mod (pf_callTy (b_int C) int_ok B.g_int bt_int (pfa_cons (pf_callB (b_max C) max_ok B.g_max bt_max (pfa_cons (pf_sub (pf_var 2) (pf_pow pf_int pf_int)) (pfa_cons pf_int pfa_nil))) pfa_nil)) (pf_pow (pf_pow pf_int pf_int) pf_int)) (pfa_cons (pf_mod (pf_callTy (b_int C) int_ok B.g_int bt_int (pfa_cons (pf_var 2) pfa_nil)) pf_int) (pfa_cons (pf_mulT false C.hK pf_int (pf_var 1)) pfa_nil)))))))
/-! _law_random -/
def N__law_random : List Str := ["_law_generator_here", "_law_bound", "_law_drawn", "_law_turn"]
def P__law_random : List Str := ["_law_generator_here", "_law_bound"]
def B0__law_random : FS := (seqS (setIxS (op2F (addX false) (op2F ixX (varF 0) (litF (.int 2))) (litF (.int 1))) (varF 0) (litF (.int 2))) (setS 2 (op2F (addX false) (op2F (mulTX false) (varF 2) (litF (.int 2147483587))) (callF false F__law_hash [] (consA (op2F ixX (varF 0) (litF (.int 1))) (consA (op2F ixX (varF 0) (litF (.int 2))) nilA))))))
def S__law_random : FS := (seqS (ifS (op2F (gtX) (op2F ixX (varF 0) (litF (.int 0))) (litF (.int 0))) (seqS (setS 2 (op2F modX (callBF intX (consA (op2F ixX (varF 0) (litF (.int 0))) nilA)) (varF 1))) (seqS (setIxS (op2F fdivX (op2F ixX (varF 0) (litF (.int 0))) (varF 1)) (varF 0) (litF (.int 0))) (retS (varF 2)))) skipS) (seqS (setS 2 (litF (.int 0))) (seqS (forS (nameG 3) (rng1F (consA (op2F (addX false) (litF (.int 1)) (op2F fdivX (bitsF (varF 1)) (litF (.int 30)))) nilA)) B0__law_random) (retS (op2F modX (callBF intX (consA (varF 2) nilA)) (varF 1))))))
def F__law_random : Fn := bodyF 2 S__law_random
theorem sc__law_random : FnScope N__law_random P__law_random (defScope (top 68)) := ⟨rfl, rfl, rfl, by decide +kernel, rfl, by decide +kernel, by decide +kernel⟩
theorem b__law_random (B : Tb P K mg ct) (hD__law_hash : Def (tx K ct) P w K mg base 1 "_law_hash" ["_law_seed", "_law_index"] [] F__law_hash) (q : Qx) (W : WX) (hr : RoomG 1 q.A) (tk : Takes (mkX P w K mg base N__law_random (defScope (top 68)) q) W) (hp : PassesOwn (model P w) q.A (enX (defScope (top 68)) q) q.xe) :
    PFSs (tx K ct) (mkX P w K mg base N__law_random (defScope (top 68)) q) W (defBody (top 68)) S__law_random :=
  have C : Cn (tx K ct) (mkX P w K mg base N__law_random (defScope (top 68)) q) W 1 := ⟨rfl, hr, tk, rfl, sc__law_random.nd⟩
  (pfs_cons (pfs_if (pft_cmp op_gt int2B_ok int2_bl (pf_ix C.hK (pf_var 0) pf_int) pf_int (nomark _)) (pfs_cons (pfs_set (i := 2) C.nd (pf_mod (pf_callTy (b_int C) int_ok B.g_int bt_int (pfa_cons (pf_ix C.hK (pf_var 0) pf_int) pfa_nil)) (pf_var 1))) (pfs_cons (pfs_setIx (pf_fdiv (pf_ix C.hK (pf_var 0) pf_int) (pf_var 1)) (pf_var 0) pf_int) (pfs_one (pfs_ret (pf_var 2))))) pfs_nil) (pfs_cons (pfs_set (i := 2) C.nd pf_int) (pfs_cons (pfs_for hp C.calm (pfi_range1 B.g_range (pfa_cons (pf_add false C.hK pf_int (pf_fdiv (pf_bits (pf_var 1)) pf_int)) pfa_nil)) (pfg_name (i := 3) C.nd) (pfs_cons (pfs_setIx (pf_add false C.hK (pf_ix C.hK (pf_var 0) pf_int) pf_int) (pf_var 0) pf_int) (pfs_one (pfs_set (i := 2) C.nd (pf_add false C.hK (pf_mulT false C.hK (pf_var 2) pf_int) (pf_callD false hD__law_hash C (pfa_cons (pf_ix C.hK (pf_var 0) pf_int) (pfa_cons (pf_ix C.hK (pf_var 0) pf_int) pfa_nil)) (len_cons (len_cons len_nil)))))))) (pfs_one (pfs_ret (pf_mod (pf_callTy (b_int C) int_ok B.g_int bt_int (pfa_cons (pf_var 2) pfa_nil)) (pf_var 1)))))))
/-! _law_first -/
def N__law_first : List Str := ["_law_number", "_law_value_here"]
def P__law_first : List Str := ["_law_number", "_law_value_here"]
def S__law_first : FS := (seqS (ifS (op2F (eqX false) (varF 0) (litF (.int 0))) (retS (mkE 1 "value" (consA (varF 1) nilA))) skipS) (seqS (ifS (op2F (eqX false) (varF 0) (litF (.int 1))) (retS (mkE 2 "value" (consA (varF 1) nilA))) skipS) (seqS (ifS (op2F (eqX false) (varF 0) (litF (.int 2))) (retS (mkE 3 "value" (consA (varF 1) nilA))) skipS) (seqS (ifS (op2F (eqX false) (varF 0) (litF (.int 3))) (retS (mkE 4 "value" (consA (varF 1) nilA))) skipS) (seqS (ifS (op2F (eqX false) (varF 0) (litF (.int 4))) (retS (mkE 5 "value" (consA (varF 1) nilA))) skipS) (seqS (ifS (op2F (eqX false) (varF 0) (litF (.int 5))) (retS (mkE 6 "value" (consA (varF 1) nilA))) skipS) (seqS (ifS (op2F (eqX false) (varF 0) (litF (.int 6))) (retS (mkE 7 "value" (consA (varF 1) nilA))) skipS) (retS (litF .non)))))))))
def F__law_first : Fn := bodyF 0 S__law_first
theorem sc__law_first : FnScope N__law_first P__law_first (defScope (top 70)) := ⟨rfl, rfl, rfl, by decide +kernel, rfl, by decide +kernel, by decide +kernel⟩
theorem b__law_first (B : Tb P K mg ct) (q : Qx) (W : WX) (hr : RoomG 0 q.A) (tk : Takes (mkX P w K mg base N__law_first (defScope (top 70)) q) W) (hp : PassesOwn (model P w) q.A (enX (defScope (top 70)) q) q.xe) :
    PFSs (tx K ct) (mkX P w K mg base N__law_first (defScope (top 70)) q) W (defBody (top 70)) S__law_first :=
  have C : Cn (tx K ct) (mkX P w K mg base N__law_first (defScope (top 70)) q) W 0 := ⟨rfl, hr, tk, rfl, sc__law_first.nd⟩
  (pfs_cons (pfs_if (pft_cmp (o_eq C) eq_ok eqX_bl (pf_var 0) pf_int (nomark _)) (pfs_one (pfs_ret (pf_mkE C B.e_InvalidNumber B.m_InvalidNumber B.g_super (pfa_cons (pf_var 1) pfa_nil)))) pfs_nil) (pfs_cons (pfs_if (pft_cmp (o_eq C) eq_ok eqX_bl (pf_var 0) pf_int (nomark _)) (pfs_one (pfs_ret (pf_mkE C B.e_InvalidWord B.m_InvalidWord B.g_super (pfa_cons (pf_var 1) pfa_nil)))) pfs_nil) (pfs_cons (pfs_if (pft_cmp (o_eq C) eq_ok eqX_bl (pf_var 0) pf_int (nomark _)) (pfs_one (pfs_ret (pf_mkE C B.e_InvalidForm B.m_InvalidForm B.g_super (pfa_cons (pf_var 1) pfa_nil)))) pfs_nil) (pfs_cons (pfs_if (pft_cmp (o_eq C) eq_ok eqX_bl (pf_var 0) pf_int (nomark _)) (pfs_one (pfs_ret (pf_mkE C B.e_InvalidPoint B.m_InvalidPoint B.g_super (pfa_cons (pf_var 1) pfa_nil)))) pfs_nil) (pfs_cons (pfs_if (pft_cmp (o_eq C) eq_ok eqX_bl (pf_var 0) pf_int (nomark _)) (pfs_one (pfs_ret (pf_mkE C B.e_InvalidPieces B.m_InvalidPieces B.g_super (pfa_cons (pf_var 1) pfa_nil)))) pfs_nil) (pfs_cons (pfs_if (pft_cmp (o_eq C) eq_ok eqX_bl (pf_var 0) pf_int (nomark _)) (pfs_one (pfs_ret (pf_mkE C B.e_InvalidList B.m_InvalidList B.g_super (pfa_cons (pf_var 1) pfa_nil)))) pfs_nil) (pfs_cons (pfs_if (pft_cmp (o_eq C) eq_ok eqX_bl (pf_var 0) pf_int (nomark _)) (pfs_one (pfs_ret (pf_mkE C B.e_InvalidLines B.m_InvalidLines B.g_super (pfa_cons (pf_var 1) pfa_nil)))) pfs_nil) (pfs_one (pfs_ret pf_non)))))))))
/-! _law_second -/
def N__law_second : List Str := ["_law_number", "_law_value_here"]
def P__law_second : List Str := ["_law_number", "_law_value_here"]
def S__law_second : FS := (seqS (ifS (op2F (eqX false) (varF 0) (litF (.int 7))) (retS (mkE 8 "value" (consA (varF 1) nilA))) skipS) (seqS (ifS (op2F (eqX false) (varF 0) (litF (.int 8))) (retS (mkE 9 "value" (consA (varF 1) nilA))) skipS) (seqS (ifS (op2F (eqX false) (varF 0) (litF (.int 9))) (retS (mkE 10 "value" (consA (varF 1) nilA))) skipS) (seqS (ifS (op2F (eqX false) (varF 0) (litF (.int 10))) (retS (mkE 11 "value" (consA (varF 1) nilA))) skipS) (seqS (ifS (op2F (eqX false) (varF 0) (litF (.int 11))) (retS (mkE 12 "value" (consA (varF 1) nilA))) skipS) (seqS (ifS (op2F (eqX false) (varF 0) (litF (.int 12))) (retS (mkE 13 "value" (consA (varF 1) nilA))) skipS) (seqS (ifS (op2F (eqX false) (varF 0) (litF (.int 13))) (retS (mkE 14 "value" (consA (varF 1) nilA))) skipS) (retS (litF .non)))))))))
def F__law_second : Fn := bodyF 0 S__law_second
theorem sc__law_second : FnScope N__law_second P__law_second (defScope (top 71)) := ⟨rfl, rfl, rfl, by decide +kernel, rfl, by decide +kernel, by decide +kernel⟩
theorem b__law_second (B : Tb P K mg ct) (q : Qx) (W : WX) (hr : RoomG 0 q.A) (tk : Takes (mkX P w K mg base N__law_second (defScope (top 71)) q) W) (hp : PassesOwn (model P w) q.A (enX (defScope (top 71)) q) q.xe) :
    PFSs (tx K ct) (mkX P w K mg base N__law_second (defScope (top 71)) q) W (defBody (top 71)) S__law_second :=
  have C : Cn (tx K ct) (mkX P w K mg base N__law_second (defScope (top 71)) q) W 0 := ⟨rfl, hr, tk, rfl, sc__law_second.nd⟩
  (pfs_cons (pfs_if (pft_cmp (o_eq C) eq_ok eqX_bl (pf_var 0) pf_int (nomark _)) (pfs_one (pfs_ret (pf_mkE C B.e_InvalidPlace B.m_InvalidPlace B.g_super (pfa_cons (pf_var 1) pfa_nil)))) pfs_nil) (pfs_cons (pfs_if (pft_cmp (o_eq C) eq_ok eqX_bl (pf_var 0) pf_int (nomark _)) (pfs_one (pfs_ret (pf_mkE C B.e_InvalidAmount B.m_InvalidAmount B.g_super (pfa_cons (pf_var 1) pfa_nil)))) pfs_nil) (pfs_cons (pfs_if (pft_cmp (o_eq C) eq_ok eqX_bl (pf_var 0) pf_int (nomark _)) (pfs_one (pfs_ret (pf_mkE C B.e_InvalidStep B.m_InvalidStep B.g_super (pfa_cons (pf_var 1) pfa_nil)))) pfs_nil) (pfs_cons (pfs_if (pft_cmp (o_eq C) eq_ok eqX_bl (pf_var 0) pf_int (nomark _)) (pfs_one (pfs_ret (pf_mkE C B.e_InvalidWay B.m_InvalidWay B.g_super (pfa_cons (pf_var 1) pfa_nil)))) pfs_nil) (pfs_cons (pfs_if (pft_cmp (o_eq C) eq_ok eqX_bl (pf_var 0) pf_int (nomark _)) (pfs_one (pfs_ret (pf_mkE C B.e_InvalidDeed B.m_InvalidDeed B.g_super (pfa_cons (pf_var 1) pfa_nil)))) pfs_nil) (pfs_cons (pfs_if (pft_cmp (o_eq C) eq_ok eqX_bl (pf_var 0) pf_int (nomark _)) (pfs_one (pfs_ret (pf_mkE C B.e_InvalidFlag B.m_InvalidFlag B.g_super (pfa_cons (pf_var 1) pfa_nil)))) pfs_nil) (pfs_cons (pfs_if (pft_cmp (o_eq C) eq_ok eqX_bl (pf_var 0) pf_int (nomark _)) (pfs_one (pfs_ret (pf_mkE C B.e_InvalidText B.m_InvalidText B.g_super (pfa_cons (pf_var 1) pfa_nil)))) pfs_nil) (pfs_one (pfs_ret pf_non)))))))))
/-! _law_third -/
def N__law_third : List Str := ["_law_number", "_law_value_here"]
def P__law_third : List Str := ["_law_number", "_law_value_here"]
def S__law_third : FS := (seqS (ifS (op2F (eqX false) (varF 0) (litF (.int 14))) (retS (mkE 15 "value" (consA (varF 1) nilA))) skipS) (seqS (ifS (op2F (eqX false) (varF 0) (litF (.int 15))) (retS (mkE 16 "value" (consA (varF 1) nilA))) skipS) (seqS (ifS (op2F (eqX false) (varF 0) (litF (.int 16))) (retS (mkE 17 "value" (consA (varF 1) nilA))) skipS) (seqS (ifS (op2F (eqX false) (varF 0) (litF (.int 17))) (retS (mkE 18 "value" (consA (varF 1) nilA))) skipS) (seqS (ifS (op2F (eqX false) (varF 0) (litF (.int 18))) (retS (mkE 19 "value" (consA (varF 1) nilA))) skipS) (seqS (ifS (op2F (eqX false) (varF 0) (litF (.int 19))) (retS (mkE 20 "value" (consA (varF 1) nilA))) skipS) (seqS (ifS (op2F (eqX false) (varF 0) (litF (.int 20))) (retS (mkE 21 "value" (consA (varF 1) nilA))) skipS) (retS (litF .non)))))))))
def F__law_third : Fn := bodyF 0 S__law_third
theorem sc__law_third : FnScope N__law_third P__law_third (defScope (top 72)) := ⟨rfl, rfl, rfl, by decide +kernel, rfl, by decide +kernel, by decide +kernel⟩
theorem b__law_third (B : Tb P K mg ct) (q : Qx) (W : WX) (hr : RoomG 0 q.A) (tk : Takes (mkX P w K mg base N__law_third (defScope (top 72)) q) W) (hp : PassesOwn (model P w) q.A (enX (defScope (top 72)) q) q.xe) :
    PFSs (tx K ct) (mkX P w K mg base N__law_third (defScope (top 72)) q) W (defBody (top 72)) S__law_third :=
  have C : Cn (tx K ct) (mkX P w K mg base N__law_third (defScope (top 72)) q) W 0 := ⟨rfl, hr, tk, rfl, sc__law_third.nd⟩
  (pfs_cons (pfs_if (pft_cmp (o_eq C) eq_ok eqX_bl (pf_var 0) pf_int (nomark _)) (pfs_one (pfs_ret (pf_mkE C B.e_InvalidGrid B.m_InvalidGrid B.g_super (pfa_cons (pf_var 1) pfa_nil)))) pfs_nil) (pfs_cons (pfs_if (pft_cmp (o_eq C) eq_ok eqX_bl (pf_var 0) pf_int (nomark _)) (pfs_one (pfs_ret (pf_mkE C B.e_InvalidSet B.m_InvalidSet B.g_super (pfa_cons (pf_var 1) pfa_nil)))) pfs_nil) (pfs_cons (pfs_if (pft_cmp (o_eq C) eq_ok eqX_bl (pf_var 0) pf_int (nomark _)) (pfs_one (pfs_ret (pf_mkE C B.e_InvalidTable B.m_InvalidTable B.g_super (pfa_cons (pf_var 1) pfa_nil)))) pfs_nil) (pfs_cons (pfs_if (pft_cmp (o_eq C) eq_ok eqX_bl (pf_var 0) pf_int (nomark _)) (pfs_one (pfs_ret (pf_mkE C B.e_InvalidAutomaton B.m_InvalidAutomaton B.g_super (pfa_cons (pf_var 1) pfa_nil)))) pfs_nil) (pfs_cons (pfs_if (pft_cmp (o_eq C) eq_ok eqX_bl (pf_var 0) pf_int (nomark _)) (pfs_one (pfs_ret (pf_mkE C B.e_InvalidMaker B.m_InvalidMaker B.g_super (pfa_cons (pf_var 1) pfa_nil)))) pfs_nil) (pfs_cons (pfs_if (pft_cmp (o_eq C) eq_ok eqX_bl (pf_var 0) pf_int (nomark _)) (pfs_one (pfs_ret (pf_mkE C B.e_InvalidProgram B.m_InvalidProgram B.g_super (pfa_cons (pf_var 1) pfa_nil)))) pfs_nil) (pfs_cons (pfs_if (pft_cmp (o_eq C) eq_ok eqX_bl (pf_var 0) pf_int (nomark _)) (pfs_one (pfs_ret (pf_mkE C B.e_InvalidWorkshop B.m_InvalidWorkshop B.g_super (pfa_cons (pf_var 1) pfa_nil)))) pfs_nil) (pfs_one (pfs_ret pf_non)))))))))
/-! _law_fourth -/
def N__law_fourth : List Str := ["_law_number", "_law_value_here"]
def P__law_fourth : List Str := ["_law_number", "_law_value_here"]
def S__law_fourth : FS := (seqS (ifS (op2F (eqX false) (varF 0) (litF (.int 21))) (retS (mkE 22 "value" (consA (varF 1) nilA))) skipS) (seqS (ifS (op2F (eqX false) (varF 0) (litF (.int 22))) (retS (mkE 23 "value" (consA (varF 1) nilA))) skipS) (seqS (ifS (op2F (eqX false) (varF 0) (litF (.int 23))) (retS (mkE 24 "value" (consA (varF 1) nilA))) skipS) (seqS (ifS (op2F (eqX false) (varF 0) (litF (.int 24))) (retS (mkE 25 "value" (consA (varF 1) nilA))) skipS) (seqS (ifS (op2F (eqX false) (varF 0) (litF (.int 25))) (retS (mkE 26 "value" (consA (varF 1) nilA))) skipS) (seqS (ifS (op2F (eqX false) (varF 0) (litF (.int 26))) (retS (mkE 27 "place" (consA (varF 1) nilA))) skipS) (retS (litF .non))))))))
def F__law_fourth : Fn := bodyF 0 S__law_fourth
theorem sc__law_fourth : FnScope N__law_fourth P__law_fourth (defScope (top 73)) := ⟨rfl, rfl, rfl, by decide +kernel, rfl, by decide +kernel, by decide +kernel⟩
theorem b__law_fourth (B : Tb P K mg ct) (q : Qx) (W : WX) (hr : RoomG 0 q.A) (tk : Takes (mkX P w K mg base N__law_fourth (defScope (top 73)) q) W) (hp : PassesOwn (model P w) q.A (enX (defScope (top 73)) q) q.xe) :
    PFSs (tx K ct) (mkX P w K mg base N__law_fourth (defScope (top 73)) q) W (defBody (top 73)) S__law_fourth :=
  have C : Cn (tx K ct) (mkX P w K mg base N__law_fourth (defScope (top 73)) q) W 0 := ⟨rfl, hr, tk, rfl, sc__law_fourth.nd⟩
  (pfs_cons (pfs_if (pft_cmp (o_eq C) eq_ok eqX_bl (pf_var 0) pf_int (nomark _)) (pfs_one (pfs_ret (pf_mkE C B.e_InvalidPiece B.m_InvalidPiece B.g_super (pfa_cons (pf_var 1) pfa_nil)))) pfs_nil) (pfs_cons (pfs_if (pft_cmp (o_eq C) eq_ok eqX_bl (pf_var 0) pf_int (nomark _)) (pfs_one (pfs_ret (pf_mkE C B.e_Unlike B.m_Unlike B.g_super (pfa_cons (pf_var 1) pfa_nil)))) pfs_nil) (pfs_cons (pfs_if (pft_cmp (o_eq C) eq_ok eqX_bl (pf_var 0) pf_int (nomark _)) (pfs_one (pfs_ret (pf_mkE C B.e_TooLong B.m_TooLong B.g_super (pfa_cons (pf_var 1) pfa_nil)))) pfs_nil) (pfs_cons (pfs_if (pft_cmp (o_eq C) eq_ok eqX_bl (pf_var 0) pf_int (nomark _)) (pfs_one (pfs_ret (pf_mkE C B.e_TooMany B.m_TooMany B.g_super (pfa_cons (pf_var 1) pfa_nil)))) pfs_nil) (pfs_cons (pfs_if (pft_cmp (o_eq C) eq_ok eqX_bl (pf_var 0) pf_int (nomark _)) (pfs_one (pfs_ret (pf_mkE C B.e_UnknownPart B.m_UnknownPart B.g_super (pfa_cons (pf_var 1) pfa_nil)))) pfs_nil) (pfs_cons (pfs_if (pft_cmp (o_eq C) eq_ok eqX_bl (pf_var 0) pf_int (nomark _)) (pfs_one (pfs_ret (pf_mkEp C B.e_OpenInOpen B.m_OpenInOpen B.g_super (pfa_cons (pf_var 1) pfa_nil)))) pfs_nil) (pfs_one (pfs_ret pf_non))))))))
/-! _law_kinds -/
def N__law_kinds : List Str := ["_law_error", "_law_found"]
def P__law_kinds : List Str := ["_law_error"]
def S__law_kinds : FS := (seqS (setS 1 (lstF false nilA)) (seqS (setS 1 (op2F (addX false) (varF 1) (lstF false (consA (callBF (isEV nC subB ownB exB) (consA (varF 0) (consA (litF (.cls 1)) nilA))) (consA (callBF (isEV nC subB ownB exB) (consA (varF 0) (consA (litF (.cls 2)) nilA))) (consA (callBF (isEV nC subB ownB exB) (consA (varF 0) (consA (litF (.cls 3)) nilA))) (consA (callBF (isEV nC subB ownB exB) (consA (varF 0) (consA (litF (.cls 4)) nilA))) nilA))))))) (seqS (setS 1 (op2F (addX false) (varF 1) (lstF false (consA (callBF (isEV nC subB ownB exB) (consA (varF 0) (consA (litF (.cls 5)) nilA))) (consA (callBF (isEV nC subB ownB exB) (consA (varF 0) (consA (litF (.cls 6)) nilA))) (consA (callBF (isEV nC subB ownB exB) (consA (varF 0) (consA (litF (.cls 7)) nilA))) (consA (callBF (isEV nC subB ownB exB) (consA (varF 0) (consA (litF (.cls 8)) nilA))) nilA))))))) (seqS (setS 1 (op2F (addX false) (varF 1) (lstF false (consA (callBF (isEV nC subB ownB exB) (consA (varF 0) (consA (litF (.cls 9)) nilA))) (consA (callBF (isEV nC subB ownB exB) (consA (varF 0) (consA (litF (.cls 10)) nilA))) (consA (callBF (isEV nC subB ownB exB) (consA (varF 0) (consA (litF (.cls 11)) nilA))) (consA (callBF (isEV nC subB ownB exB) (consA (varF 0) (consA (litF (.cls 12)) nilA))) nilA))))))) (seqS (setS 1 (op2F (addX false) (varF 1) (lstF false (consA (callBF (isEV nC subB ownB exB) (consA (varF 0) (consA (litF (.cls 13)) nilA))) (consA (callBF (isEV nC subB ownB exB) (consA (varF 0) (consA (litF (.cls 14)) nilA))) (consA (callBF (isEV nC subB ownB exB) (consA (varF 0) (consA (litF (.cls 15)) nilA))) (consA (callBF (isEV nC subB ownB exB) (consA (varF 0) (consA (litF (.cls 16)) nilA))) nilA))))))) (seqS (setS 1 (op2F (addX false) (varF 1) (lstF false (consA (callBF (isEV nC subB ownB exB) (consA (varF 0) (consA (litF (.cls 17)) nilA))) (consA (callBF (isEV nC subB ownB exB) (consA (varF 0) (consA (litF (.cls 18)) nilA))) (consA (callBF (isEV nC subB ownB exB) (consA (varF 0) (consA (litF (.cls 19)) nilA))) (consA (callBF (isEV nC subB ownB exB) (consA (varF 0) (consA (litF (.cls 20)) nilA))) nilA))))))) (seqS (setS 1 (op2F (addX false) (varF 1) (lstF false (consA (callBF (isEV nC subB ownB exB) (consA (varF 0) (consA (litF (.cls 21)) nilA))) (consA (callBF (isEV nC subB ownB exB) (consA (varF 0) (consA (litF (.cls 22)) nilA))) (consA (callBF (isEV nC subB ownB exB) (consA (varF 0) (consA (litF (.cls 23)) nilA))) (consA (callBF (isEV nC subB ownB exB) (consA (varF 0) (consA (litF (.cls 24)) nilA))) nilA))))))) (seqS (setS 1 (op2F (addX false) (varF 1) (lstF false (consA (callBF (isEV nC subB ownB exB) (consA (varF 0) (consA (litF (.cls 25)) nilA))) (consA (callBF (isEV nC subB ownB exB) (consA (varF 0) (consA (litF (.cls 26)) nilA))) (consA (callBF (isEV nC subB ownB exB) (consA (varF 0) (consA (litF (.cls 27)) nilA))) (consA (callBF (isEV nC subB ownB exB) (consA (varF 0) (consA (litF (.cls 28)) nilA))) nilA))))))) (seqS (setS 1 (op2F (addX false) (varF 1) (lstF false (consA (callBF (isEV nC subB ownB exB) (consA (varF 0) (consA (litF (.cls 29)) nilA))) nilA)))) (retS (varF 1)))))))))))
def F__law_kinds : Fn := bodyF 1 S__law_kinds
theorem sc__law_kinds : FnScope N__law_kinds P__law_kinds (defScope (top 74)) := ⟨rfl, rfl, rfl, by decide +kernel, rfl, by decide +kernel, by decide +kernel⟩
theorem b__law_kinds (B : Tb P K mg ct) (q : Qx) (W : WX) (hr : RoomG 0 q.A) (tk : Takes (mkX P w K mg base N__law_kinds (defScope (top 74)) q) W) (hp : PassesOwn (model P w) q.A (enX (defScope (top 74)) q) q.xe) :
    PFSs (tx K ct) (mkX P w K mg base N__law_kinds (defScope (top 74)) q) W (defBody (top 74)) S__law_kinds :=
  have C : Cn (tx K ct) (mkX P w K mg base N__law_kinds (defScope (top 74)) q) W 0 := ⟨rfl, hr, tk, rfl, sc__law_kinds.nd⟩
  (pfs_cons (pfs_set (i := 1) C.nd (pf_lst false pfa_nil)) (pfs_cons (pfs_set (i := 1) C.nd (pf_add false C.hK (pf_var 1) (pf_lst false (pfa_cons (pf_callB (b_isi C) (isEV_ok B.txo B.tew) B.g_isinstance bt_isinstance (pfa_cons (pf_var 0) (pfa_cons (pf_gcls 1 B.m_InvalidNumber) pfa_nil))) (pfa_cons (pf_callB (b_isi C) (isEV_ok B.txo B.tew) B.g_isinstance bt_isinstance (pfa_cons (pf_var 0) (pfa_cons (pf_gcls 2 B.m_InvalidWord) pfa_nil))) (pfa_cons (pf_callB (b_isi C) (isEV_ok B.txo B.tew) B.g_isinstance bt_isinstance (pfa_cons (pf_var 0) (pfa_cons (pf_gcls 3 B.m_InvalidForm) pfa_nil))) (pfa_cons (pf_callB (b_isi C) (isEV_ok B.txo B.tew) B.g_isinstance bt_isinstance (pfa_cons (pf_var 0) (pfa_cons (pf_gcls 4 B.m_InvalidPoint) pfa_nil))) pfa_nil))))))) (pfs_cons (pfs_set (i := 1) C.nd (pf_add false C.hK (pf_var 1) (pf_lst false (pfa_cons (pf_callB (b_isi C) (isEV_ok B.txo B.tew) B.g_isinstance bt_isinstance (pfa_cons (pf_var 0) (pfa_cons (pf_gcls 5 B.m_InvalidPieces) pfa_nil))) (pfa_cons (pf_callB (b_isi C) (isEV_ok B.txo B.tew) B.g_isinstance bt_isinstance (pfa_cons (pf_var 0) (pfa_cons (pf_gcls 6 B.m_InvalidList) pfa_nil))) (pfa_cons (pf_callB (b_isi C) (isEV_ok B.txo B.tew) B.g_isinstance bt_isinstance (pfa_cons (pf_var 0) (pfa_cons (pf_gcls 7 B.m_InvalidLines) pfa_nil))) (pfa_cons (pf_callB (b_isi C) (isEV_ok B.txo B.tew) B.g_isinstance bt_isinstance (pfa_cons (pf_var 0) (pfa_cons (pf_gcls 8 B.m_InvalidPlace) pfa_nil))) pfa_nil))))))) (pfs_cons (pfs_set (i := 1) C.nd (pf_add false C.hK (pf_var 1) (pf_lst false (pfa_cons (pf_callB (b_isi C) (isEV_ok B.txo B.tew) B.g_isinstance bt_isinstance (pfa_cons (pf_var 0) (pfa_cons (pf_gcls 9 B.m_InvalidAmount) pfa_nil))) (pfa_cons (pf_callB (b_isi C) (isEV_ok B.txo B.tew) B.g_isinstance bt_isinstance (pfa_cons (pf_var 0) (pfa_cons (pf_gcls 10 B.m_InvalidStep) pfa_nil))) (pfa_cons (pf_callB (b_isi C) (isEV_ok B.txo B.tew) B.g_isinstance bt_isinstance (pfa_cons (pf_var 0) (pfa_cons (pf_gcls 11 B.m_InvalidWay) pfa_nil))) (pfa_cons (pf_callB (b_isi C) (isEV_ok B.txo B.tew) B.g_isinstance bt_isinstance (pfa_cons (pf_var 0) (pfa_cons (pf_gcls 12 B.m_InvalidDeed) pfa_nil))) pfa_nil))))))) (pfs_cons (pfs_set (i := 1) C.nd (pf_add false C.hK (pf_var 1) (pf_lst false (pfa_cons (pf_callB (b_isi C) (isEV_ok B.txo B.tew) B.g_isinstance bt_isinstance (pfa_cons (pf_var 0) (pfa_cons (pf_gcls 13 B.m_InvalidFlag) pfa_nil))) (pfa_cons (pf_callB (b_isi C) (isEV_ok B.txo B.tew) B.g_isinstance bt_isinstance (pfa_cons (pf_var 0) (pfa_cons (pf_gcls 14 B.m_InvalidText) pfa_nil))) (pfa_cons (pf_callB (b_isi C) (isEV_ok B.txo B.tew) B.g_isinstance bt_isinstance (pfa_cons (pf_var 0) (pfa_cons (pf_gcls 15 B.m_InvalidGrid) pfa_nil))) (pfa_cons (pf_callB (b_isi C) (isEV_ok B.txo B.tew) B.g_isinstance bt_isinstance (pfa_cons (pf_var 0) (pfa_cons (pf_gcls 16 B.m_InvalidSet) pfa_nil))) pfa_nil))))))) (pfs_cons (pfs_set (i := 1) C.nd (pf_add false C.hK (pf_var 1) (pf_lst false (pfa_cons (pf_callB (b_isi C) (isEV_ok B.txo B.tew) B.g_isinstance bt_isinstance (pfa_cons (pf_var 0) (pfa_cons (pf_gcls 17 B.m_InvalidTable) pfa_nil))) (pfa_cons (pf_callB (b_isi C) (isEV_ok B.txo B.tew) B.g_isinstance bt_isinstance (pfa_cons (pf_var 0) (pfa_cons (pf_gcls 18 B.m_InvalidAutomaton) pfa_nil))) (pfa_cons (pf_callB (b_isi C) (isEV_ok B.txo B.tew) B.g_isinstance bt_isinstance (pfa_cons (pf_var 0) (pfa_cons (pf_gcls 19 B.m_InvalidMaker) pfa_nil))) (pfa_cons (pf_callB (b_isi C) (isEV_ok B.txo B.tew) B.g_isinstance bt_isinstance (pfa_cons (pf_var 0) (pfa_cons (pf_gcls 20 B.m_InvalidProgram) pfa_nil))) pfa_nil))))))) (pfs_cons (pfs_set (i := 1) C.nd (pf_add false C.hK (pf_var 1) (pf_lst false (pfa_cons (pf_callB (b_isi C) (isEV_ok B.txo B.tew) B.g_isinstance bt_isinstance (pfa_cons (pf_var 0) (pfa_cons (pf_gcls 21 B.m_InvalidWorkshop) pfa_nil))) (pfa_cons (pf_callB (b_isi C) (isEV_ok B.txo B.tew) B.g_isinstance bt_isinstance (pfa_cons (pf_var 0) (pfa_cons (pf_gcls 22 B.m_InvalidPiece) pfa_nil))) (pfa_cons (pf_callB (b_isi C) (isEV_ok B.txo B.tew) B.g_isinstance bt_isinstance (pfa_cons (pf_var 0) (pfa_cons (pf_gcls 23 B.m_Unlike) pfa_nil))) (pfa_cons (pf_callB (b_isi C) (isEV_ok B.txo B.tew) B.g_isinstance bt_isinstance (pfa_cons (pf_var 0) (pfa_cons (pf_gcls 24 B.m_TooLong) pfa_nil))) pfa_nil))))))) (pfs_cons (pfs_set (i := 1) C.nd (pf_add false C.hK (pf_var 1) (pf_lst false (pfa_cons (pf_callB (b_isi C) (isEV_ok B.txo B.tew) B.g_isinstance bt_isinstance (pfa_cons (pf_var 0) (pfa_cons (pf_gcls 25 B.m_TooMany) pfa_nil))) (pfa_cons (pf_callB (b_isi C) (isEV_ok B.txo B.tew) B.g_isinstance bt_isinstance (pfa_cons (pf_var 0) (pfa_cons (pf_gcls 26 B.m_UnknownPart) pfa_nil))) (pfa_cons (pf_callB (b_isi C) (isEV_ok B.txo B.tew) B.g_isinstance bt_isinstance (pfa_cons (pf_var 0) (pfa_cons (pf_gcls 27 B.m_OpenInOpen) pfa_nil))) (pfa_cons (pf_callB (b_isi C) (isEV_ok B.txo B.tew) B.g_isinstance bt_isinstance (pfa_cons (pf_var 0) (pfa_cons (pf_gcls 28 B.m_NothingToUndo) pfa_nil))) pfa_nil))))))) (pfs_cons (pfs_set (i := 1) C.nd (pf_add false C.hK (pf_var 1) (pf_lst false (pfa_cons (pf_callB (b_isi C) (isEV_ok B.txo B.tew) B.g_isinstance bt_isinstance (pfa_cons (pf_var 0) (pfa_cons (pf_gcls 29 B.m_NothingToRedo) pfa_nil))) pfa_nil)))) (pfs_one (pfs_ret (pf_var 1))))))))))))
/-! _law_empty -/
def N__law_empty : List Str := ["_law_found"]
def P__law_empty : List Str := []
def S__law_empty : FS := (seqS (setS 0 (lstF false nilA)) (seqS (setS 0 (op2F (addX false) (varF 0) (lstF false (consA (excF exB "value" (mkE0 1 "value")) (consA (excF exB "value" (mkE0 2 "value")) (consA (excF exB "value" (mkE0 3 "value")) (consA (excF exB "value" (mkE0 4 "value")) (consA (excF exB "value" (mkE0 5 "value")) nilA)))))))) (seqS (setS 0 (op2F (addX false) (varF 0) (lstF false (consA (excF exB "value" (mkE0 6 "value")) (consA (excF exB "value" (mkE0 7 "value")) (consA (excF exB "value" (mkE0 8 "value")) (consA (excF exB "value" (mkE0 9 "value")) (consA (excF exB "value" (mkE0 10 "value")) nilA)))))))) (seqS (setS 0 (op2F (addX false) (varF 0) (lstF false (consA (excF exB "value" (mkE0 11 "value")) (consA (excF exB "value" (mkE0 12 "value")) (consA (excF exB "value" (mkE0 13 "value")) (consA (excF exB "value" (mkE0 14 "value")) (consA (excF exB "value" (mkE0 15 "value")) nilA)))))))) (seqS (setS 0 (op2F (addX false) (varF 0) (lstF false (consA (excF exB "value" (mkE0 16 "value")) (consA (excF exB "value" (mkE0 17 "value")) (consA (excF exB "value" (mkE0 18 "value")) (consA (excF exB "value" (mkE0 19 "value")) (consA (excF exB "value" (mkE0 20 "value")) nilA)))))))) (seqS (setS 0 (op2F (addX false) (varF 0) (lstF false (consA (excF exB "value" (mkE0 21 "value")) (consA (excF exB "value" (mkE0 22 "value")) (consA (excF exB "value" (mkE0 23 "value")) (consA (excF exB "value" (mkE0 24 "value")) (consA (excF exB "value" (mkE0 25 "value")) nilA)))))))) (seqS (setS 0 (op2F (addX false) (varF 0) (lstF false (consA (excF exB "value" (mkE0 26 "value")) nilA)))) (retS (op2F (addX false) (varF 0) (lstF false (consA (excP exB 27 "place" (mkE0 27 "place")) nilA)))))))))))
def F__law_empty : Fn := bodyF 1 S__law_empty
theorem sc__law_empty : FnScope N__law_empty P__law_empty (defScope (top 75)) := ⟨rfl, rfl, rfl, by decide +kernel, rfl, by decide +kernel, by decide +kernel⟩
theorem b__law_empty (B : Tb P K mg ct) (q : Qx) (W : WX) (hr : RoomG 0 q.A) (tk : Takes (mkX P w K mg base N__law_empty (defScope (top 75)) q) W) (hp : PassesOwn (model P w) q.A (enX (defScope (top 75)) q) q.xe) :
    PFSs (tx K ct) (mkX P w K mg base N__law_empty (defScope (top 75)) q) W (defBody (top 75)) S__law_empty :=
  have C : Cn (tx K ct) (mkX P w K mg base N__law_empty (defScope (top 75)) q) W 0 := ⟨rfl, hr, tk, rfl, sc__law_empty.nd⟩
  (pfs_cons (pfs_set (i := 0) C.nd (pf_lst false pfa_nil)) (pfs_cons (pfs_set (i := 0) C.nd (pf_add false C.hK (pf_var 0) (pf_lst false (pfa_cons (pf_excV B.tew C.hK (pf_mkE0 C B.e_InvalidNumber B.m_InvalidNumber B.g_super)) (pfa_cons (pf_excV B.tew C.hK (pf_mkE0 C B.e_InvalidWord B.m_InvalidWord B.g_super)) (pfa_cons (pf_excV B.tew C.hK (pf_mkE0 C B.e_InvalidForm B.m_InvalidForm B.g_super)) (pfa_cons (pf_excV B.tew C.hK (pf_mkE0 C B.e_InvalidPoint B.m_InvalidPoint B.g_super)) (pfa_cons (pf_excV B.tew C.hK (pf_mkE0 C B.e_InvalidPieces B.m_InvalidPieces B.g_super)) pfa_nil)))))))) (pfs_cons (pfs_set (i := 0) C.nd (pf_add false C.hK (pf_var 0) (pf_lst false (pfa_cons (pf_excV B.tew C.hK (pf_mkE0 C B.e_InvalidList B.m_InvalidList B.g_super)) (pfa_cons (pf_excV B.tew C.hK (pf_mkE0 C B.e_InvalidLines B.m_InvalidLines B.g_super)) (pfa_cons (pf_excV B.tew C.hK (pf_mkE0 C B.e_InvalidPlace B.m_InvalidPlace B.g_super)) (pfa_cons (pf_excV B.tew C.hK (pf_mkE0 C B.e_InvalidAmount B.m_InvalidAmount B.g_super)) (pfa_cons (pf_excV B.tew C.hK (pf_mkE0 C B.e_InvalidStep B.m_InvalidStep B.g_super)) pfa_nil)))))))) (pfs_cons (pfs_set (i := 0) C.nd (pf_add false C.hK (pf_var 0) (pf_lst false (pfa_cons (pf_excV B.tew C.hK (pf_mkE0 C B.e_InvalidWay B.m_InvalidWay B.g_super)) (pfa_cons (pf_excV B.tew C.hK (pf_mkE0 C B.e_InvalidDeed B.m_InvalidDeed B.g_super)) (pfa_cons (pf_excV B.tew C.hK (pf_mkE0 C B.e_InvalidFlag B.m_InvalidFlag B.g_super)) (pfa_cons (pf_excV B.tew C.hK (pf_mkE0 C B.e_InvalidText B.m_InvalidText B.g_super)) (pfa_cons (pf_excV B.tew C.hK (pf_mkE0 C B.e_InvalidGrid B.m_InvalidGrid B.g_super)) pfa_nil)))))))) (pfs_cons (pfs_set (i := 0) C.nd (pf_add false C.hK (pf_var 0) (pf_lst false (pfa_cons (pf_excV B.tew C.hK (pf_mkE0 C B.e_InvalidSet B.m_InvalidSet B.g_super)) (pfa_cons (pf_excV B.tew C.hK (pf_mkE0 C B.e_InvalidTable B.m_InvalidTable B.g_super)) (pfa_cons (pf_excV B.tew C.hK (pf_mkE0 C B.e_InvalidAutomaton B.m_InvalidAutomaton B.g_super)) (pfa_cons (pf_excV B.tew C.hK (pf_mkE0 C B.e_InvalidMaker B.m_InvalidMaker B.g_super)) (pfa_cons (pf_excV B.tew C.hK (pf_mkE0 C B.e_InvalidProgram B.m_InvalidProgram B.g_super)) pfa_nil)))))))) (pfs_cons (pfs_set (i := 0) C.nd (pf_add false C.hK (pf_var 0) (pf_lst false (pfa_cons (pf_excV B.tew C.hK (pf_mkE0 C B.e_InvalidWorkshop B.m_InvalidWorkshop B.g_super)) (pfa_cons (pf_excV B.tew C.hK (pf_mkE0 C B.e_InvalidPiece B.m_InvalidPiece B.g_super)) (pfa_cons (pf_excV B.tew C.hK (pf_mkE0 C B.e_Unlike B.m_Unlike B.g_super)) (pfa_cons (pf_excV B.tew C.hK (pf_mkE0 C B.e_TooLong B.m_TooLong B.g_super)) (pfa_cons (pf_excV B.tew C.hK (pf_mkE0 C B.e_TooMany B.m_TooMany B.g_super)) pfa_nil)))))))) (pfs_cons (pfs_set (i := 0) C.nd (pf_add false C.hK (pf_var 0) (pf_lst false (pfa_cons (pf_excV B.tew C.hK (pf_mkE0 C B.e_UnknownPart B.m_UnknownPart B.g_super)) pfa_nil)))) (pfs_one (pfs_ret (pf_add false C.hK (pf_var 0) (pf_lst false (pfa_cons (pf_excP B.tew B.np C.hK (pf_mkE0p C B.e_OpenInOpen B.m_OpenInOpen B.g_super)) pfa_nil))))))))))))
/-! _law_named -/
def N__law_named : List Str := ["_law_value_here", "_law_found"]
def P__law_named : List Str := ["_law_value_here"]
def S__law_named : FS := (seqS (setS 1 (lstF false nilA)) (seqS (setS 1 (op2F (addX false) (varF 1) (lstF false (consA (excF exB "value" (mkE 1 "value" (consA (varF 0) nilA))) (consA (excF exB "value" (mkE 2 "value" (consA (varF 0) nilA))) (consA (excF exB "value" (mkE 3 "value" (consA (varF 0) nilA))) (consA (excF exB "value" (mkE 4 "value" (consA (varF 0) nilA))) nilA))))))) (seqS (setS 1 (op2F (addX false) (varF 1) (lstF false (consA (excF exB "value" (mkE 5 "value" (consA (varF 0) nilA))) (consA (excF exB "value" (mkE 6 "value" (consA (varF 0) nilA))) (consA (excF exB "value" (mkE 7 "value" (consA (varF 0) nilA))) (consA (excF exB "value" (mkE 8 "value" (consA (varF 0) nilA))) nilA))))))) (seqS (setS 1 (op2F (addX false) (varF 1) (lstF false (consA (excF exB "value" (mkE 9 "value" (consA (varF 0) nilA))) (consA (excF exB "value" (mkE 10 "value" (consA (varF 0) nilA))) (consA (excF exB "value" (mkE 11 "value" (consA (varF 0) nilA))) (consA (excF exB "value" (mkE 12 "value" (consA (varF 0) nilA))) nilA))))))) (seqS (setS 1 (op2F (addX false) (varF 1) (lstF false (consA (excF exB "value" (mkE 13 "value" (consA (varF 0) nilA))) (consA (excF exB "value" (mkE 14 "value" (consA (varF 0) nilA))) (consA (excF exB "value" (mkE 15 "value" (consA (varF 0) nilA))) (consA (excF exB "value" (mkE 16 "value" (consA (varF 0) nilA))) nilA))))))) (seqS (setS 1 (op2F (addX false) (varF 1) (lstF false (consA (excF exB "value" (mkE 17 "value" (consA (varF 0) nilA))) (consA (excF exB "value" (mkE 18 "value" (consA (varF 0) nilA))) (consA (excF exB "value" (mkE 19 "value" (consA (varF 0) nilA))) (consA (excF exB "value" (mkE 20 "value" (consA (varF 0) nilA))) nilA))))))) (seqS (setS 1 (op2F (addX false) (varF 1) (lstF false (consA (excF exB "value" (mkE 21 "value" (consA (varF 0) nilA))) (consA (excF exB "value" (mkE 22 "value" (consA (varF 0) nilA))) (consA (excF exB "value" (mkE 23 "value" (consA (varF 0) nilA))) (consA (excF exB "value" (mkE 24 "value" (consA (varF 0) nilA))) nilA))))))) (seqS (setS 1 (op2F (addX false) (varF 1) (lstF false (consA (excF exB "value" (mkE 25 "value" (consA (varF 0) nilA))) (consA (excF exB "value" (mkE 26 "value" (consA (varF 0) nilA))) nilA))))) (retS (op2F (addX false) (varF 1) (lstF false (consA (excP exB 27 "place" (mkE 27 "place" (consA (varF 0) nilA))) nilA))))))))))))
def F__law_named : Fn := bodyF 1 S__law_named
theorem sc__law_named : FnScope N__law_named P__law_named (defScope (top 76)) := ⟨rfl, rfl, rfl, by decide +kernel, rfl, by decide +kernel, by decide +kernel⟩
theorem b__law_named (B : Tb P K mg ct) (q : Qx) (W : WX) (hr : RoomG 0 q.A) (tk : Takes (mkX P w K mg base N__law_named (defScope (top 76)) q) W) (hp : PassesOwn (model P w) q.A (enX (defScope (top 76)) q) q.xe) :
    PFSs (tx K ct) (mkX P w K mg base N__law_named (defScope (top 76)) q) W (defBody (top 76)) S__law_named :=
  have C : Cn (tx K ct) (mkX P w K mg base N__law_named (defScope (top 76)) q) W 0 := ⟨rfl, hr, tk, rfl, sc__law_named.nd⟩
  (pfs_cons (pfs_set (i := 1) C.nd (pf_lst false pfa_nil)) (pfs_cons (pfs_set (i := 1) C.nd (pf_add false C.hK (pf_var 1) (pf_lst false (pfa_cons (pf_excV B.tew C.hK (pf_mkEK C B.e_InvalidNumber B.m_InvalidNumber B.g_super (pfk_cons (pf_var 0) pfk_nil))) (pfa_cons (pf_excV B.tew C.hK (pf_mkEK C B.e_InvalidWord B.m_InvalidWord B.g_super (pfk_cons (pf_var 0) pfk_nil))) (pfa_cons (pf_excV B.tew C.hK (pf_mkEK C B.e_InvalidForm B.m_InvalidForm B.g_super (pfk_cons (pf_var 0) pfk_nil))) (pfa_cons (pf_excV B.tew C.hK (pf_mkEK C B.e_InvalidPoint B.m_InvalidPoint B.g_super (pfk_cons (pf_var 0) pfk_nil))) pfa_nil))))))) (pfs_cons (pfs_set (i := 1) C.nd (pf_add false C.hK (pf_var 1) (pf_lst false (pfa_cons (pf_excV B.tew C.hK (pf_mkEK C B.e_InvalidPieces B.m_InvalidPieces B.g_super (pfk_cons (pf_var 0) pfk_nil))) (pfa_cons (pf_excV B.tew C.hK (pf_mkEK C B.e_InvalidList B.m_InvalidList B.g_super (pfk_cons (pf_var 0) pfk_nil))) (pfa_cons (pf_excV B.tew C.hK (pf_mkEK C B.e_InvalidLines B.m_InvalidLines B.g_super (pfk_cons (pf_var 0) pfk_nil))) (pfa_cons (pf_excV B.tew C.hK (pf_mkEK C B.e_InvalidPlace B.m_InvalidPlace B.g_super (pfk_cons (pf_var 0) pfk_nil))) pfa_nil))))))) (pfs_cons (pfs_set (i := 1) C.nd (pf_add false C.hK (pf_var 1) (pf_lst false (pfa_cons (pf_excV B.tew C.hK (pf_mkEK C B.e_InvalidAmount B.m_InvalidAmount B.g_super (pfk_cons (pf_var 0) pfk_nil))) (pfa_cons (pf_excV B.tew C.hK (pf_mkEK C B.e_InvalidStep B.m_InvalidStep B.g_super (pfk_cons (pf_var 0) pfk_nil))) (pfa_cons (pf_excV B.tew C.hK (pf_mkEK C B.e_InvalidWay B.m_InvalidWay B.g_super (pfk_cons (pf_var 0) pfk_nil))) (pfa_cons (pf_excV B.tew C.hK (pf_mkEK C B.e_InvalidDeed B.m_InvalidDeed B.g_super (pfk_cons (pf_var 0) pfk_nil))) pfa_nil))))))) (pfs_cons (pfs_set (i := 1) C.nd (pf_add false C.hK (pf_var 1) (pf_lst false (pfa_cons (pf_excV B.tew C.hK (pf_mkEK C B.e_InvalidFlag B.m_InvalidFlag B.g_super (pfk_cons (pf_var 0) pfk_nil))) (pfa_cons (pf_excV B.tew C.hK (pf_mkEK C B.e_InvalidText B.m_InvalidText B.g_super (pfk_cons (pf_var 0) pfk_nil))) (pfa_cons (pf_excV B.tew C.hK (pf_mkEK C B.e_InvalidGrid B.m_InvalidGrid B.g_super (pfk_cons (pf_var 0) pfk_nil))) (pfa_cons (pf_excV B.tew C.hK (pf_mkEK C B.e_InvalidSet B.m_InvalidSet B.g_super (pfk_cons (pf_var 0) pfk_nil))) pfa_nil))))))) (pfs_cons (pfs_set (i := 1) C.nd (pf_add false C.hK (pf_var 1) (pf_lst false (pfa_cons (pf_excV B.tew C.hK (pf_mkEK C B.e_InvalidTable B.m_InvalidTable B.g_super (pfk_cons (pf_var 0) pfk_nil))) (pfa_cons (pf_excV B.tew C.hK (pf_mkEK C B.e_InvalidAutomaton B.m_InvalidAutomaton B.g_super (pfk_cons (pf_var 0) pfk_nil))) (pfa_cons (pf_excV B.tew C.hK (pf_mkEK C B.e_InvalidMaker B.m_InvalidMaker B.g_super (pfk_cons (pf_var 0) pfk_nil))) (pfa_cons (pf_excV B.tew C.hK (pf_mkEK C B.e_InvalidProgram B.m_InvalidProgram B.g_super (pfk_cons (pf_var 0) pfk_nil))) pfa_nil))))))) (pfs_cons (pfs_set (i := 1) C.nd (pf_add false C.hK (pf_var 1) (pf_lst false (pfa_cons (pf_excV B.tew C.hK (pf_mkEK C B.e_InvalidWorkshop B.m_InvalidWorkshop B.g_super (pfk_cons (pf_var 0) pfk_nil))) (pfa_cons (pf_excV B.tew C.hK (pf_mkEK C B.e_InvalidPiece B.m_InvalidPiece B.g_super (pfk_cons (pf_var 0) pfk_nil))) (pfa_cons (pf_excV B.tew C.hK (pf_mkEK C B.e_Unlike B.m_Unlike B.g_super (pfk_cons (pf_var 0) pfk_nil))) (pfa_cons (pf_excV B.tew C.hK (pf_mkEK C B.e_TooLong B.m_TooLong B.g_super (pfk_cons (pf_var 0) pfk_nil))) pfa_nil))))))) (pfs_cons (pfs_set (i := 1) C.nd (pf_add false C.hK (pf_var 1) (pf_lst false (pfa_cons (pf_excV B.tew C.hK (pf_mkEK C B.e_TooMany B.m_TooMany B.g_super (pfk_cons (pf_var 0) pfk_nil))) (pfa_cons (pf_excV B.tew C.hK (pf_mkEK C B.e_UnknownPart B.m_UnknownPart B.g_super (pfk_cons (pf_var 0) pfk_nil))) pfa_nil))))) (pfs_one (pfs_ret (pf_add false C.hK (pf_var 1) (pf_lst false (pfa_cons (pf_excP B.tew B.np C.hK (pf_mkEKp C B.e_OpenInOpen B.m_OpenInOpen B.g_super (pfk_cons (pf_var 0) pfk_nil))) pfa_nil)))))))))))))
/-! _law_value -/
def N__law_value : List Str := ["_law_generator_here", "_law_kind"]
def P__law_value : List Str := ["_law_generator_here"]
def S__law_value : FS := (seqS (setS 1 (callF false F__law_random [] (consA (varF 0) (consA (litF (.int 6)) nilA)))) (seqS (ifS (op2F (eqX false) (varF 1) (litF (.int 0))) (retS (callF false F__law_random [] (consA (varF 0) (consA (op2F powX (litF (.int 10)) (litF (.int 30))) nilA)))) skipS) (seqS (ifS (op2F (eqX false) (varF 1) (litF (.int 1))) (retS (op2F (mulTX false) (litF (.str "ab")) (callF false F__law_random [] (consA (varF 0) (consA (litF (.int 3)) nilA))))) skipS) (seqS (ifS (op2F (eqX false) (varF 1) (litF (.int 2))) (retS (lstF false (consA (callF false F__law_random [] (consA (varF 0) (consA (litF (.int 9)) nilA))) (consA (litF .non) nilA)))) skipS) (seqS (ifS (op2F (eqX false) (varF 1) (litF (.int 3))) (retS (tupF (consA (litF (.str "main")) (consA (tupF (consA (callF false F__law_random [] (consA (varF 0) (consA (litF (.int 9)) nilA))) nilA)) nilA)))) skipS) (retS (ifF (op2F (eqX false) (varF 1) (litF (.int 4))) (litF .non) (makeF false 30 F_OpenText___init__ [] (consA (litF (.int 1)) (consA (lstF false (consA (tupF (consA (litF (.str "a")) (consA (tupF (consA (litF (.int 1)) (consA (callF false F__law_random [] (consA (varF 0) (consA (litF (.int 9)) nilA))) nilA))) nilA))) nilA)) nilA))))))))))
def F__law_value : Fn := bodyF 1 S__law_value
theorem sc__law_value : FnScope N__law_value P__law_value (defScope (top 77)) := ⟨rfl, rfl, rfl, by decide +kernel, rfl, by decide +kernel, by decide +kernel⟩
theorem b__law_value (B : Tb P K mg ct) (hD__law_random : Def (tx K ct) P w K mg base 2 "_law_random" ["_law_generator_here", "_law_bound"] [] F__law_random) (hM_OpenText___init__ : DefM (tx K ct) P w K mg base 7 "OpenText" 30 ["self", "many", "pieces"] [] F_OpenText___init__) (q : Qx) (W : WX) (hr : RoomG 8 q.A) (tk : Takes (mkX P w K mg base N__law_value (defScope (top 77)) q) W) (hp : PassesOwn (model P w) q.A (enX (defScope (top 77)) q) q.xe) :
    PFSs (tx K ct) (mkX P w K mg base N__law_value (defScope (top 77)) q) W (defBody (top 77)) S__law_value :=
  have C : Cn (tx K ct) (mkX P w K mg base N__law_value (defScope (top 77)) q) W 8 := ⟨rfl, hr, tk, rfl, sc__law_value.nd⟩
  (pfs_cons (pfs_set (i := 1) C.nd (pf_callD false hD__law_random C (pfa_cons (pf_var 0) (pfa_cons pf_int pfa_nil)) (len_cons (len_cons len_nil)))) (pfs_cons (pfs_if (pft_cmp (o_eq C) eq_ok eqX_bl (pf_var 1) pf_int (nomark _)) (pfs_one (pfs_ret (pf_callD false hD__law_random C (pfa_cons (pf_var 0) (pfa_cons (pf_pow pf_int pf_int) pfa_nil)) (len_cons (len_cons len_nil))))) pfs_nil) (pfs_cons (pfs_if (pft_cmp (o_eq C) eq_ok eqX_bl (pf_var 1) pf_int (nomark _)) (pfs_one (pfs_ret (pf_mulT false C.hK pf_str (pf_callD false hD__law_random C (pfa_cons (pf_var 0) (pfa_cons pf_int pfa_nil)) (len_cons (len_cons len_nil)))))) pfs_nil) (pfs_cons (pfs_if (pft_cmp (o_eq C) eq_ok eqX_bl (pf_var 1) pf_int (nomark _)) (pfs_one (pfs_ret (pf_lst false (pfa_cons (pf_callD false hD__law_random C (pfa_cons (pf_var 0) (pfa_cons pf_int pfa_nil)) (len_cons (len_cons len_nil))) (pfa_cons pf_non pfa_nil))))) pfs_nil) (pfs_cons (pfs_if (pft_cmp (o_eq C) eq_ok eqX_bl (pf_var 1) pf_int (nomark _)) (pfs_one (pfs_ret (pf_tup (pfa_cons pf_str (pfa_cons (pf_tup (pfa_cons (pf_callD false hD__law_random C (pfa_cons (pf_var 0) (pfa_cons pf_int pfa_nil)) (len_cons (len_cons len_nil))) pfa_nil)) pfa_nil))))) pfs_nil) (pfs_one (pfs_ret (pf_if (pft_cmp (o_eq C) eq_ok eqX_bl (pf_var 1) pf_int (nomark _)) pf_non (pf_make false hM_OpenText___init__ C (pfa_cons pf_int (pfa_cons (pf_lst false (pfa_cons (pf_tup (pfa_cons pf_str (pfa_cons (pf_tup (pfa_cons pf_int (pfa_cons (pf_callD false hD__law_random C (pfa_cons (pf_var 0) (pfa_cons pf_int pfa_nil)) (len_cons (len_cons len_nil))) pfa_nil))) pfa_nil))) pfa_nil)) pfa_nil)) (len_cons (len_cons len_nil)))))))))))
/-! _law_made -/
def N__law_made : List Str := ["_law_number", "_law_value_here", "_law_makers", "_law_error"]
def P__law_made : List Str := ["_law_number", "_law_value_here"]
def T0__law_made : FE := (op2F (isNoneX true) (varF 3) (litF .non))
def E1__law_made : FE := (varF 3)
def S__law_made : FS := (seqS (setS 2 (lstF false (consA (callF false F__law_first [] (consA (varF 0) (consA (varF 1) nilA))) (consA (callF false F__law_second [] (consA (varF 0) (consA (varF 1) nilA))) (consA (callF false F__law_third [] (consA (varF 0) (consA (varF 1) nilA))) (consA (callF false F__law_fourth [] (consA (varF 0) (consA (varF 1) nilA))) nilA)))))) (retS (op2F ixX (lcF false [3] (nameG 3) (iterF (varF 2)) T0__law_made E1__law_made) (litF (.int 0)))))
def F__law_made : Fn := bodyF 2 S__law_made
theorem sc__law_made : FnScope N__law_made P__law_made (defScope (top 69)) := ⟨rfl, rfl, rfl, by decide +kernel, rfl, by decide +kernel, by decide +kernel⟩
theorem b__law_made (B : Tb P K mg ct) (hD__law_fourth : Def (tx K ct) P w K mg base 1 "_law_fourth" ["_law_number", "_law_value_here"] [] F__law_fourth) (hD__law_third : Def (tx K ct) P w K mg base 1 "_law_third" ["_law_number", "_law_value_here"] [] F__law_third) (hD__law_second : Def (tx K ct) P w K mg base 1 "_law_second" ["_law_number", "_law_value_here"] [] F__law_second) (hD__law_first : Def (tx K ct) P w K mg base 1 "_law_first" ["_law_number", "_law_value_here"] [] F__law_first) (q : Qx) (W : WX) (hr : RoomG 1 q.A) (tk : Takes (mkX P w K mg base N__law_made (defScope (top 69)) q) W) (hp : PassesOwn (model P w) q.A (enX (defScope (top 69)) q) q.xe) :
    PFSs (tx K ct) (mkX P w K mg base N__law_made (defScope (top 69)) q) W (defBody (top 69)) S__law_made :=
  have C : Cn (tx K ct) (mkX P w K mg base N__law_made (defScope (top 69)) q) W 1 := ⟨rfl, hr, tk, rfl, sc__law_made.nd⟩
  (pfs_cons (pfs_set (i := 2) C.nd (pf_lst false (pfa_cons (pf_callD false hD__law_first C (pfa_cons (pf_var 0) (pfa_cons (pf_var 1) pfa_nil)) (len_cons (len_cons len_nil))) (pfa_cons (pf_callD false hD__law_second C (pfa_cons (pf_var 0) (pfa_cons (pf_var 1) pfa_nil)) (len_cons (len_cons len_nil))) (pfa_cons (pf_callD false hD__law_third C (pfa_cons (pf_var 0) (pfa_cons (pf_var 1) pfa_nil)) (len_cons (len_cons len_nil))) (pfa_cons (pf_callD false hD__law_fourth C (pfa_cons (pf_var 0) (pfa_cons (pf_var 1) pfa_nil)) (len_cons (len_cons len_nil))) pfa_nil)))))) (pfs_one (pfs_ret (pf_ix C.hK (pf_lc (own := [("_law_error", 3)]) false C.calm C.nd (pfi_seq C.hK (pf_var 2)) (blkOk_by (by first | decide +kernel | rfl)) (fun _ _ _ _ _ => (pfg_name (i := 3) (Cn.blk C _ _ _ _ _).nd)) (fun _ _ _ _ _ => (pts_1 (pft_cmp op_notN notNone_ok isNoneX_bl (pf_var 3) pf_non (nomark _)))) (fun _ _ _ _ _ => (pf_var 3))) pf_int))))
/-! law -/
def N_law : List Str := ["_law_script", "_law_generator_here", "_law_value_here", "_law_number", "_law_error", "_law_place", "_law_told", "_law_field"]
def P_law : List Str := ["_law_script"]
def E0_law : FE := (op2F (eqX false) (varF 5) (varF 3))
def B1_law : FS := (seqS (setS 4 (callF false F__law_made [] (consA (varF 3) (consA (varF 2) nilA)))) (seqS (ifS (orF (notF (callBF (isEV nC subB ownB exB) (consA (varF 4) (consA (litF (.cls 0)) nilA)))) (notF (callBF (isEV nC subB ownB exB) (consA (varF 4) (consA (litF (.ty "ValueError")) nilA))))) (retS (litF (.bl false))) skipS) (seqS (ifS (op2F (eqX true) (callF false F__law_kinds [] (consA (varF 4) nilA)) (lcF false [5] (nameG 5) (rng1F (consA (litF (.int 29)) nilA)) yesF E0_law)) (retS (litF (.bl false))) skipS) (seqS (setS 6 (ifF (op2F (eqX false) (varF 3) (litF (.int 26))) (excP exB 27 "place" (varF 4)) (excF exB "value" (varF 4)))) (ifS (orF (notF (op2F (eqOX 30 F_OpenText___eq__) (varF 6) (varF 2))) (op2F (eqX true) (op2F (isNoneX false) (varF 6) (litF .non)) (op2F (isNoneX false) (varF 2) (litF .non)))) (retS (litF (.bl false))) skipS)))))
def T2_law : FE := (notF (op2F (eqOX 30 F_OpenText___eq__) (varF 7) (varF 2)))
def E3_law : FE := (varF 7)
def E4_law : FE := (op2F (eqX false) (varF 5) (op2F (addX false) (litF (.int 27)) (varF 3)))
def B5_law : FS := (seqS (setS 4 (ifF (op2F (eqX false) (varF 3) (litF (.int 0))) (mkP 28) (mkP 29))) (ifS (orF (notF (callBF (isEV nC subB ownB exB) (consA (varF 4) (consA (litF (.cls 0)) nilA)))) (op2F (eqX true) (callF false F__law_kinds [] (consA (varF 4) nilA)) (lcF false [5] (nameG 5) (rng1F (consA (litF (.int 29)) nilA)) yesF E4_law))) (retS (litF (.bl false))) skipS))
def T6_law : FE := (op2F (isNoneX true) (varF 7) (litF .non))
def E7_law : FE := (varF 7)
def S_law : FS := (seqS (setS 1 (callF true F__law_generator [] (consA (varF 0) (consA (litF (.int 0)) nilA)))) (seqS (setS 2 (callF false F__law_value [] (consA (varF 1) nilA))) (seqS (forS (nameG 3) (rng1F (consA (litF (.int 27)) nilA)) B1_law) (seqS (ifS (op2F (eqX true) (lcF false [7] (nameG 7) (iterF (callF false F__law_named [] (consA (varF 2) nilA))) T2_law E3_law) (lstF false nilA)) (retS (litF (.bl false))) skipS) (seqS (forS (nameG 3) (rng1F (consA (litF (.int 2)) nilA)) B5_law) (retS (andF (op2F (eqX false) (lcF false [7] (nameG 7) (iterF (callF false F__law_empty [] nilA)) T6_law E7_law) (lstF false nilA)) (callBF (isEV nC subB ownB exB) (consA (mkP 0) (consA (litF (.ty "ValueError")) nilA))))))))))
def F_law : Fn := bodyF 7 S_law
theorem sc_law : FnScope N_law P_law (defScope (top 78)) := ⟨rfl, rfl, rfl, by decide +kernel, rfl, by decide +kernel, by decide +kernel⟩
theorem b_law (B : Tb P K mg ct) (hD__law_generator : Def (tx K ct) P w K mg base 1 "_law_generator" ["_law_script", "_law_index"] [] F__law_generator) (hD__law_value : Def (tx K ct) P w K mg base 9 "_law_value" ["_law_generator_here"] [] F__law_value) (hD__law_made : Def (tx K ct) P w K mg base 2 "_law_made" ["_law_number", "_law_value_here"] [] F__law_made) (hD__law_kinds : Def (tx K ct) P w K mg base 1 "_law_kinds" ["_law_error"] [] F__law_kinds) (hE_OpenText___eq__ : TxEq (tx K ct) P w K mg base 1 30 F_OpenText___eq__) (hD__law_named : Def (tx K ct) P w K mg base 1 "_law_named" ["_law_value_here"] [] F__law_named) (hD__law_empty : Def (tx K ct) P w K mg base 1 "_law_empty" [] [] F__law_empty) (q : Qx) (W : WX) (hr : RoomG 9 q.A) (tk : Takes (mkX P w K mg base N_law (defScope (top 78)) q) W) (hp : PassesOwn (model P w) q.A (enX (defScope (top 78)) q) q.xe) :
    PFSs (tx K ct) (mkX P w K mg base N_law (defScope (top 78)) q) W (defBody (top 78)) S_law :=
  have C : Cn (tx K ct) (mkX P w K mg base N_law (defScope (top 78)) q) W 9 := ⟨rfl, hr, tk, rfl, sc_law.nd⟩
  (pfs_cons (pfs_set (i := 1) C.nd (pf_callD true hD__law_generator C (pfa_cons (pf_var 0) (pfa_cons pf_int pfa_nil)) (len_cons (len_cons len_nil)))) (pfs_cons (pfs_set (i := 2) C.nd (pf_callD false hD__law_value C (pfa_cons (pf_var 1) pfa_nil) (len_cons len_nil))) (pfs_cons (pfs_for hp C.calm (pfi_range1 B.g_range (pfa_cons pf_int pfa_nil)) (pfg_name (i := 3) C.nd) (pfs_cons (pfs_set (i := 4) C.nd (pf_callD false hD__law_made C (pfa_cons (pf_var 3) (pfa_cons (pf_var 2) pfa_nil)) (len_cons (len_cons len_nil)))) (pfs_cons (pfs_if (pft_w (pfw_or (pft_not (pft_of C.hK (pf_callB (b_isi C) (isEV_ok B.txo B.tew) B.g_isinstance bt_isinstance (pfa_cons (pf_var 4) (pfa_cons (pf_gcls 0 B.m_LoopError) pfa_nil))))) (pfw_or1 (pft_not (pft_of C.hK (pf_callB (b_isi C) (isEV_ok B.txo B.tew) B.g_isinstance bt_isinstance (pfa_cons (pf_var 4) (pfa_cons (pf_ty B.g_ValueError bt_ValueError) pfa_nil)))))))) (pfs_one (pfs_ret pf_bl)) pfs_nil) (pfs_cons (pfs_if (pft_cmp (o_ne C) ne_ok eqX_bl (pf_callD false hD__law_kinds C (pfa_cons (pf_var 4) pfa_nil) (len_cons len_nil)) (pf_lc (own := [("_law_place", 5)]) false C.calm C.nd (pfi_range1 B.g_range (pfa_cons pf_int pfa_nil)) (blkOk_by (by first | decide +kernel | rfl)) (fun _ _ _ _ _ => (pfg_name (i := 5) (Cn.blk C _ _ _ _ _).nd)) (fun _ _ _ _ _ => pts_yes) (fun _ _ _ _ _ => (pf_cmp (o_eq (Cn.blk C _ _ _ _ _)) eq_ok (pf_var 5) (pf_var 3) (nomark _)))) (nomark _)) (pfs_one (pfs_ret pf_bl)) pfs_nil) (pfs_cons (pfs_set (i := 6) C.nd (pf_if (pft_cmp (o_eq C) eq_ok eqX_bl (pf_var 3) pf_int (nomark _)) (pf_excP B.tew B.np C.hK (pf_var 4)) (pf_excV B.tew C.hK (pf_var 4)))) (pfs_one (pfs_if (pft_w (pfw_or (pft_not (pft_cmp (o_eqO hE_OpenText___eq__ C) (eqO_ok hE_OpenText___eq__) eqOX_bl (pf_var 6) (pf_var 2) (nomark _))) (pfw_or1 (pft_cmp (o_ne C) ne_ok eqX_bl (pf_cmp op_isN isNone_ok (pf_var 6) pf_non (nomark _)) (pf_cmp op_isN isNone_ok (pf_var 2) pf_non (nomark _)) (nomark _))))) (pfs_one (pfs_ret pf_bl)) pfs_nil))))))) (pfs_cons (pfs_if (pft_cmp (o_ne C) ne_ok eqX_bl (pf_lc (own := [("_law_field", 7)]) false C.calm C.nd (pfi_seq C.hK (pf_callD false hD__law_named C (pfa_cons (pf_var 2) pfa_nil) (len_cons len_nil))) (blkOk_by (by first | decide +kernel | rfl)) (fun _ _ _ _ _ => (pfg_name (i := 7) (Cn.blk C _ _ _ _ _).nd)) (fun _ _ _ _ _ => (pts_1 (pft_not (pft_cmp (o_eqO hE_OpenText___eq__ (Cn.blk C _ _ _ _ _)) (eqO_ok hE_OpenText___eq__) eqOX_bl (pf_var 7) (pf_var 2) (nomark _))))) (fun _ _ _ _ _ => (pf_var 7))) (pf_lst false pfa_nil) (nomark _)) (pfs_one (pfs_ret pf_bl)) pfs_nil) (pfs_cons (pfs_for hp C.calm (pfi_range1 B.g_range (pfa_cons pf_int pfa_nil)) (pfg_name (i := 3) C.nd) (pfs_cons (pfs_set (i := 4) C.nd (pf_if (pft_cmp (o_eq C) eq_ok eqX_bl (pf_var 3) pf_int (nomark _)) (pf_mkP C B.x_NothingToUndo B.kx_NothingToUndo B.m_NothingToUndo) (pf_mkP C B.x_NothingToRedo B.kx_NothingToRedo B.m_NothingToRedo))) (pfs_one (pfs_if (pft_w (pfw_or (pft_not (pft_of C.hK (pf_callB (b_isi C) (isEV_ok B.txo B.tew) B.g_isinstance bt_isinstance (pfa_cons (pf_var 4) (pfa_cons (pf_gcls 0 B.m_LoopError) pfa_nil))))) (pfw_or1 (pft_cmp (o_ne C) ne_ok eqX_bl (pf_callD false hD__law_kinds C (pfa_cons (pf_var 4) pfa_nil) (len_cons len_nil)) (pf_lc (own := [("_law_place", 5)]) false C.calm C.nd (pfi_range1 B.g_range (pfa_cons pf_int pfa_nil)) (blkOk_by (by first | decide +kernel | rfl)) (fun _ _ _ _ _ => (pfg_name (i := 5) (Cn.blk C _ _ _ _ _).nd)) (fun _ _ _ _ _ => pts_yes) (fun _ _ _ _ _ => (pf_cmp (o_eq (Cn.blk C _ _ _ _ _)) eq_ok (pf_var 5) (pf_add false (Cn.blk C _ _ _ _ _).hK pf_int (pf_var 3)) (nomark _)))) (nomark _))))) (pfs_one (pfs_ret pf_bl)) pfs_nil)))) (pfs_one (pfs_ret (pf_and (pf_cmp (o_eq C) eq_ok (pf_lc (own := [("_law_field", 7)]) false C.calm C.nd (pfi_seq C.hK (pf_callD0 false hD__law_empty C)) (blkOk_by (by first | decide +kernel | rfl)) (fun _ _ _ _ _ => (pfg_name (i := 7) (Cn.blk C _ _ _ _ _).nd)) (fun _ _ _ _ _ => (pts_1 (pft_cmp op_notN notNone_ok isNoneX_bl (pf_var 7) pf_non (nomark _)))) (fun _ _ _ _ _ => (pf_var 7))) (pf_lst false pfa_nil) (nomark _)) (pf_one (pf_callB (b_isi C) (isEV_ok B.txo B.tew) B.g_isinstance bt_isinstance (pfa_cons (pf_mkP C B.x_LoopError B.kx_LoopError B.m_LoopError) (pfa_cons (pf_ty B.g_ValueError bt_ValueError) pfa_nil))))))))))))
end
end FL

set_option Elab.async false
set_option linter.all false
set_option maxRecDepth 100000
set_option maxHeartbeats 1000000
namespace FL
open PySem PySem.Spec PyProof.Rows L2
/-! ### the generator -/
abbrev gen (a b c : Int) : O := .lst [.int a, .int b, .int c]
def GI (n : Nat) (o : O) : Prop := ∃ a b c, o = gen a b c ∧ 0 ≤ a ∧ 0 ≤ b ∧ b < 2147483647 ∧ 0 ≤ c ∧ c + 4 * (n : Int) ≤ 10 ^ 6
theorem hash_ok (x i : Int) (hx : 0 ≤ x) (hx2 : x < 2 ^ 40) (hi : 0 ≤ i) (hi2 : i < 2 ^ 40) : ∃ h, F__law_hash [.d (.int x), .d (.int i)] [] = .ok (.d (.int h)) [] ∧ 0 ≤ h ∧ h < 2147483647 := by
  suffices q : ∃ k : Int, F__law_hash [.d (.int x), .d (.int i)] [] = .ok (.d (.int (k % 2147483647))) [] by
    obtain ⟨k, q⟩ := q
    exact ⟨_, q, Int.emod_nonneg _ (by decide), Int.emod_lt_of_pos _ (by decide)⟩
  unfold F__law_hash S__law_hash bodyF
  simp (disch := first | omega | (unfold Bd; omega)) [e_mul2, e_mod]
  exact ⟨_, rfl⟩
@[simp] theorem ix_gen0 (a b c r) : ixX (.ref 0) (.d (.int 0)) (gen a b c :: r) = .ok (.d (.int a)) (gen a b c :: r) := nr rfl
@[simp] theorem ix_gen1 (a b c r) : ixX (.ref 0) (.d (.int 1)) (gen a b c :: r) = .ok (.d (.int b)) (gen a b c :: r) := nr rfl
@[simp] theorem ix_gen2 (a b c r) : ixX (.ref 0) (.d (.int 2)) (gen a b c :: r) = .ok (.d (.int c)) (gen a b c :: r) := nr rfl
@[simp] theorem e_setIx0 (fv : FE) (v a b c r ρ s) (h : fv ρ s = .ok (.d v) (gen a b c :: r)) (h0 : ρ[0]? = some (some (.ref 0))) : setIxS fv (varF 0) (litF (.int 0)) ρ s = .nx ρ (.lst [v, .int b, .int c] :: r) := by
  unfold setIxS
  rw [h]
  simp [h0]
  rfl
@[simp] theorem e_setIx2 (fv : FE) (v a b c r ρ s) (h : fv ρ s = .ok (.d v) (gen a b c :: r)) (h0 : ρ[0]? = some (some (.ref 0))) : setIxS fv (varF 0) (litF (.int 2)) ρ s = .nx ρ (.lst [.int a, .int b, v] :: r) := by
  unfold setIxS
  rw [h]
  simp [h0]
  rfl
theorem turn_ok {bd d a b c : Int} {x : Xv} (h0 : 0 ≤ d) (h1 : d < 10000000000000000000000000000000000000000) (hb : 0 ≤ b) (hb2 : b < 2147483647) (hc : 0 ≤ c) (hc2 : c < 10 ^ 6) :
    ∃ h, B0__law_random [some (.ref 0), some (.d (.int bd)), some (.d (.int d)), some x] [gen a b c] = .nx [some (.ref 0), some (.d (.int bd)), some (.d (.int (d * 2147483587 + h))), some x] [gen a b (c + 1)] ∧ 0 ≤ h ∧ h < 2147483647 := by
  obtain ⟨h, e1, e2, e3⟩ := hash_ok b (c + 1) hb (by omega) (by omega) (by omega)
  refine ⟨h, ?_, e2, e3⟩
  unfold B0__law_random
  rw [e_seq, e_setIx2 (v := .int (c + 1)) (a := a) (b := b) (c := c) (r := [])]
  · have q : runC false F__law_hash [.d (.int b), .d (.int (c + 1))] [gen a b (c + 1)] = .ok (.d (.int h)) [gen a b (c + 1)] := run0_d e1 rfl
    simp (disch := first | omega | (unfold Bd; omega)) [e_mul2]
    show Res.bindS (Res.bind (runC false F__law_hash [.d (.int b), .d (.int (c + 1))] [gen a b (c + 1)]) _) _ _ = _
    rw [q]
    rfl
  · simp
  · rfl
def Mb : Nat → Int
  | 0 => 2
  | 1 => 10000000000000
  | 2 => 100000000000000000000000
  | 3 => 1000000000000000000000000000000000
  | _ => 10000000000000000000000000000000000000000000
theorem random_step {bd : Int} {t n : Nat} {b c : Int} (ht : t ≤ 4) (h1 : 0 ≤ b) (h2 : b < 2147483647) (h3 : 0 ≤ c) (h4 : c + 4 * (n + 1) ≤ 10 ^ 6) (j : Nat) (x : D) (ρ : Env') (s : Sto) (hj : (rngD 0 t)[j]? = some x)
    (hI : ∃ (d c' : Int) (x : Option Xv), ρ = [some (.ref 0), some (.d (.int bd)), some (.d (.int d)), x] ∧ s = [gen 0 b c'] ∧ 0 ≤ d ∧ d < Mb (0 + j) ∧ c' = c + (0 + j : Nat)) :
    ∃ r r' s', nameG 3 (.d x) ρ = some r ∧ B0__law_random r s = .nx r' s' ∧ (∃ (d c' : Int) (x : Option Xv), r' = [some (.ref 0), some (.d (.int bd)), some (.d (.int d)), x] ∧ s' = [gen 0 b c'] ∧ 0 ≤ d ∧ d < Mb (0 + j + 1) ∧ c' = c + (0 + j + 1 : Nat)) := by
  obtain ⟨d, c', x0, rfl, rfl, d0, d1, rfl⟩ := hI
  have hjt := (rng_at hj).1
  have hj4 : j = 0 ∨ j = 1 ∨ j = 2 ∨ j = 3 := by omega
  have d2 : d < 10000000000000000000000000000000000000000 := by
    rcases hj4 with e | e | e | e <;> subst e <;> (unfold Mb at d1; simp at d1; omega)
  obtain ⟨h, e1, e2, e3⟩ := turn_ok (bd := bd) (d := d) (a := 0) (b := b) (c := c + ((0 + j : Nat) : Int)) (x := .d x) d0 d2 h1 h2 (by omega) (by omega)
  refine ⟨_, _, _, rfl, e1, d * 2147483587 + h, _, _, rfl, rfl, by omega, ?_, by push_cast; omega⟩
  rcases hj4 with e | e | e | e <;> subst e <;> (unfold Mb at d1 ⊢; simp at d1 ⊢; omega)
theorem random_a {bd : Int} {t : Nat} {a b c : Int} (hb : BdOk bd t) (h0 : 0 < a) : F__law_random [.ref 0, .d (.int bd)] [gen a b c] = .ok (.d (.int (a % bd))) [gen (a / bd) b c] := by
  have hp := hb.pos
  unfold F__law_random S__law_random bodyF
  simp [h0, e_mod _ _ _ hp]
  rw [e_setIx0 (v := .int (a / bd)) (a := a) (b := b) (c := c) (r := [])]
  · simp
  · simp [e_div _ _ _ hp hb.lg]
  · simp
theorem random_b {bd d z : Int} {t : Nat} {b c c' : Int} {x : Option Xv} (hz : ¬ 0 < z) (hb : BdOk bd t) (e1 : forF (nameG 3) B0__law_random (rngD 0 t) [some (.ref 0), some (.d (.int bd)), some (.d (.int 0)), none] [gen z b c] = .nx [some (.ref 0), some (.d (.int bd)), some (.d (.int d)), x] [gen z b c']) :
    F__law_random [.ref 0, .d (.int bd)] [gen z b c] = .ok (.d (.int (d % bd))) [gen z b c'] := by
  have hp := hb.pos
  have tn := hb.tn
  have le := hb.le
  unfold F__law_random S__law_random
  rw [e_body]
  simp [hz, e_mod _ _ _ hp, e_div _ _ _ (show (0 : Int) < 30 by decide) (by decide +kernel), tn]
  rw [e_rng _ _ (by omega) (by omega)]
  simp
  rw [e1]
  simp [e_mod _ _ _ hp]
theorem random_ok {n : Nat} {o : O} {bd : Int} {t : Nat} (hg : GI (n + 1) o) (hb : BdOk bd t) : ∃ r o', F__law_random [.ref 0, .d (.int bd)] [o] = .ok (.d (.int r)) [o'] ∧ 0 ≤ r ∧ r < bd ∧ GI n o' := by
  obtain ⟨a, b, c, rfl, ha, h1, h2, h3, h4⟩ := hg
  have hp := hb.pos
  have le := hb.le
  by_cases h0 : 0 < a
  · exact ⟨a % bd, gen (a / bd) b c, random_a hb h0, Int.emod_nonneg _ (by omega), Int.emod_lt_of_pos _ hp, a / bd, b, c, rfl, Int.ediv_nonneg ha (by omega), h1, h2, h3, by omega⟩
  · have ha0 : a = 0 := by omega
    subst ha0
    obtain ⟨ρ', s', e1, d, c', x, rfl, rfl, d0, d1, rfl⟩ := forF_inv (asg := nameG 3) (b := B0__law_random) (fun i ρ s => ∃ (d c' : Int) (x : Option Xv), ρ = [some (.ref 0), some (.d (.int bd)), some (.d (.int d)), x] ∧ s = [gen 0 b c'] ∧ 0 ≤ d ∧ d < Mb i ∧ c' = c + i) (rngD 0 t) 0
      (ρ := [some (.ref 0), some (.d (.int bd)), some (.d (.int 0)), none]) (s := [gen 0 b c]) ⟨0, c, none, rfl, rfl, Int.le_refl 0, by decide, by simp⟩ (random_step (n := n) le h1 h2 h3 (by push_cast at h4; exact h4))
    have hl := rng_len 0 t
    exact ⟨d % bd, gen 0 b (c + ((0 + (rngD 0 t).length : Nat) : Int)), random_b (by decide) hb e1, Int.emod_nonneg _ (by omega), Int.emod_lt_of_pos _ hp, 0, b, _, rfl, Int.le_refl 0, h1, h2, by omega, by rw [hl]; push_cast at h4 ⊢; omega⟩
theorem GI.le {n k : Nat} {o : O} (h : GI n o) (hk : k ≤ n) : GI k o := by
  obtain ⟨a, b, c, e, h1, h2, h3, h4, h5⟩ := h
  exact ⟨a, b, c, e, h1, h2, h3, h4, by omega⟩
theorem runG {m : Bool} {F : Fn} {xs : List Xv} {rest : Sto} {v : D} {n n' : Nat} {o o' : O} (g : GI n o) (g' : GI n' o') (h : F (.ref 0 :: zero xs) [o] = .ok (.d v) [o']) (h0 : refsOf xs = []) : runC m F (.ref 0 :: xs) (o :: rest) = .ok (.d v) (o' :: rest) := by
  obtain ⟨a, b, c, rfl, _⟩ := g
  obtain ⟨a', b', c', rfl, _⟩ := g'
  exact run1_d h h0
theorem rand_r {n : Nat} {o : O} {bd : Int} {t : Nat} (hg : GI (n + 1) o) (hb : BdOk bd t) : ∃ r o', (∀ m rest, runC m F__law_random [.ref 0, .d (.int bd)] (o :: rest) = .ok (.d (.int r)) (o' :: rest)) ∧ 0 ≤ r ∧ r < bd ∧ GI n o' := by
  obtain ⟨r, o', e, h1, h2, h3⟩ := random_ok hg hb
  exact ⟨r, o', fun m rest => runG hg h3 e rfl, h1, h2, h3⟩
theorem gen_ok (ns : List Int) {i : Nat} (hi : i < 3) : ∃ o, F__law_generator [.d (.scr ns), .d (.int (i : Int))] [] = .ok (.ref 0) [o] ∧ GI 200 o := by
  obtain ⟨B, hB, pB⟩ := pow600
  suffices h : ∀ seed : Int, (ifF (op2F (ltX) (varF 1) (callBF lenX (consA (varF 0) nilA))) (op2F ixX (varF 0) (varF 1)) (op2F modX (callBF sumTX (consA (slF false (varF 0) (litF .non) (intF (litF (.int 1)))) nilA)) (litF (.int 1000003)))) [some (.d (.scr ns)), some (.d (.int (i : Int))), none] [] = .ok (.d (.int seed)) [] → ∃ o, F__law_generator [.d (.scr ns), .d (.int (i : Int))] [] = .ok (.ref 0) [o] ∧ GI 200 o by
    by_cases h0 : i < ns.length
    · refine h ns[i] ?_
      have q := ix_scr (s := []) (List.getElem?_eq_getElem h0)
      simp [len_scr, show (i : Int) < ns.length by omega, q]
    · refine h ((cutD ns none (some 1)).sum % 1000003) ?_
      have q := sum_ns (cutD ns none (some 1)) []
      simp [len_scr, show ¬ (i : Int) < ns.length by omega, sl_scr]
      rw [e_mod _ _ _ (by decide)]
  intro seed hs
  have hm : ∀ x : Int, 0 ≤ (if 0 > x then (0 : Int) else x) := fun x => by split <;> omega
  refine ⟨gen ((if 0 > seed - 1000000000000000000 then 0 else seed - 1000000000000000000) % B) (seed % 2147483647) (1000 * i), ?_, _, _, _, rfl, Int.emod_nonneg _ (by omega), Int.emod_nonneg _ (by decide), Int.emod_lt_of_pos _ (by decide), by omega, by omega⟩
  unfold F__law_generator S__law_generator
  rw [e_body]
  show runOut (seqS _ _ [some (.d (.scr ns)), some (.d (.int (i : Int))), none] []) = _
  rw [seq_go (r := [some (.d (.scr ns)), some (.d (.int (i : Int))), some (.d (.int seed))]) (s2 := []) (by rw [e_set, hs]; simp) rfl]
  simp [pow18, pow60, pB, e_mod _ _ _ hB, e_mod _ _ _ (show (0 : Int) < 2147483647 by decide)]
  rw [e_mul2 _ _ _ _ (by unfold Bd; omega) (by unfold Bd; omega)]
  simp
theorem gen_r (ns : List Int) {i : Nat} (hi : i < 3) (s : Sto) : ∃ o, runC true F__law_generator [.d (.scr ns), .d (.int (i : Int))] s = .ok (.ref s.length) (s ++ [o]) ∧ GI 200 o := by
  obtain ⟨o, e, g⟩ := gen_ok ns hi
  refine ⟨o, ?_, g⟩
  obtain ⟨a, b, c, rfl, _⟩ := g
  unfold runC
  show run0 true F__law_generator [.d (.scr ns), .d (.int (i : Int))] s = _
  unfold run0
  rw [e]
  rfl
end FL

set_option Elab.async false
set_option linter.all false
set_option maxRecDepth 100000
set_option maxHeartbeats 1000000
namespace FL
open PySem PySem.Spec PyProof.Rows L2
@[simp] theorem e_lst0 (ρ s) : lstF false nilA ρ s = .ok (.d (.lst [])) s := nr rfl
@[simp] theorem c_nil : (Str.ofString "") = sS [] := nr rfl
@[simp] theorem own30 : ownB 30 = true := nr rfl
def V0 : FS := (setS 4 (callF false F__law_made [] (consA (varF 3) (consA (varF 2) nilA))))
def V1 : FS := (ifS (orF (notF (callBF (isEV nC subB ownB exB) (consA (varF 4) (consA (litF (.cls 0)) nilA)))) (notF (callBF (isEV nC subB ownB exB) (consA (varF 4) (consA (litF (.ty "ValueError")) nilA))))) (retS (litF (.bl false))) skipS)
def V2 : FS := (ifS (op2F (eqX true) (callF false F__law_kinds [] (consA (varF 4) nilA)) (lcF false [5] (nameG 5) (rng1F (consA (litF (.int 29)) nilA)) yesF E0_law)) (retS (litF (.bl false))) skipS)
def V3 : FS := (setS 6 (ifF (op2F (eqX false) (varF 3) (litF (.int 26))) (excP exB 27 "place" (varF 4)) (excF exB "value" (varF 4))))
def V4 : FS := (ifS (orF (notF (op2F (eqOX 30 F_OpenText___eq__) (varF 6) (varF 2))) (op2F (eqX true) (op2F (isNoneX false) (varF 6) (litF .non)) (op2F (isNoneX false) (varF 2) (litF .non)))) (retS (litF (.bl false))) skipS)
theorem v_B1 : B1_law = seqS V0 (seqS V1 (seqS V2 (seqS V3 (V4)))) := rfl
def U0 : FS := (setS 1 (callF true F__law_generator [] (consA (varF 0) (consA (litF (.int 0)) nilA))))
def U1 : FS := (setS 2 (callF false F__law_value [] (consA (varF 1) nilA)))
def U2 : FS := (forS (nameG 3) (rng1F (consA (litF (.int 27)) nilA)) B1_law)
def U3 : FS := (ifS (op2F (eqX true) (lcF false [7] (nameG 7) (iterF (callF false F__law_named [] (consA (varF 2) nilA))) T2_law E3_law) (lstF false nilA)) (retS (litF (.bl false))) skipS)
def U4 : FS := (forS (nameG 3) (rng1F (consA (litF (.int 2)) nilA)) B5_law)
def U5 : FS := (retS (andF (op2F (eqX false) (lcF false [7] (nameG 7) (iterF (callF false F__law_empty [] nilA)) T6_law E7_law) (lstF false nilA)) (callBF (isEV nC subB ownB exB) (consA (mkP 0) (consA (litF (.ty "ValueError")) nilA)))))
theorem u_S : S_law = seqS U0 (seqS U1 (seqS U2 (seqS U3 (seqS U4 (U5))))) := rfl
def G0 : FS := (setS 1 (callF false F__law_random [] (consA (varF 0) (consA (litF (.int 6)) nilA))))
def G1 : FS := (ifS (op2F (eqX false) (varF 1) (litF (.int 0))) (retS (callF false F__law_random [] (consA (varF 0) (consA (op2F powX (litF (.int 10)) (litF (.int 30))) nilA)))) skipS)
def G2 : FS := (ifS (op2F (eqX false) (varF 1) (litF (.int 1))) (retS (op2F (mulTX false) (litF (.str "ab")) (callF false F__law_random [] (consA (varF 0) (consA (litF (.int 3)) nilA))))) skipS)
def G3 : FS := (ifS (op2F (eqX false) (varF 1) (litF (.int 2))) (retS (lstF false (consA (callF false F__law_random [] (consA (varF 0) (consA (litF (.int 9)) nilA))) (consA (litF .non) nilA)))) skipS)
def G4 : FS := (ifS (op2F (eqX false) (varF 1) (litF (.int 3))) (retS (tupF (consA (litF (.str "main")) (consA (tupF (consA (callF false F__law_random [] (consA (varF 0) (consA (litF (.int 9)) nilA))) nilA)) nilA)))) skipS)
def G5 : FS := (retS (ifF (op2F (eqX false) (varF 1) (litF (.int 4))) (litF .non) (makeF false 30 F_OpenText___init__ [] (consA (litF (.int 1)) (consA (lstF false (consA (tupF (consA (litF (.str "a")) (consA (tupF (consA (litF (.int 1)) (consA (callF false F__law_random [] (consA (varF 0) (consA (litF (.int 9)) nilA))) nilA))) nilA))) nilA)) nilA)))))
theorem g_S : S__law_value = seqS G0 (seqS G1 (seqS G2 (seqS G3 (seqS G4 (G5))))) := rfl
/-- what the law asks of its value -/
structure Vv (v : D) : Prop where
  eq : ∀ s, eqOX 30 F_OpenText___eq__ (.d v) (.d v) s = .ok (.d (.bl true)) s
  nn : ∃ b, ∀ s, isNoneX false (.d v) (.d .non) s = .ok (.d (.bl b)) s
theorem vv_int (r : Int) : Vv (.int r) := ⟨fun s => by
  show eqX false (.d (.int r)) (.d (.int r)) s = _
  rw [eq_ii]
  simp, false, fun s => rfl⟩
theorem vv_non : Vv .non := ⟨fun s => rfl, true, fun s => rfl⟩
theorem vv_str {w : List Nat} (h : Lt w) : Vv (sD w) := ⟨fun s => by
  show eqX false (.d (sD w)) (.d (sD w)) s = _
  rw [eq_ss false s h h]
  simp, false, fun s => rfl⟩
theorem vv_lst (r : Int) : Vv (.lst [.int r, .non]) := ⟨fun s => by
  show eqX false (.d (.lst [.int r, .non])) (.d (.lst [.int r, .non])) s = _
  exact eqX_r false s (by kernel_rfl), false, fun s => rfl⟩
theorem vv_tup (r : Int) : Vv (.tup [.str "main", .tup [.int r]]) := ⟨fun s => by
  show eqX false (.d (.tup [.str "main", .tup [.int r]])) (.d (.tup [.str "main", .tup [.int r]])) s = _
  exact eqX_r false s (by kernel_rfl), false, fun s => rfl⟩
def obR (r : Int) : D := .obj 30 ["_many", "_pieces"] [.int 1, .tup (if r = 0 then [.tup [.str "a", .tup [.int 1, .int 0]]] else [.tup [.str "a", .tup [.int 0, .int r]], .tup [.str "a", .tup [.int 1, .int 0]]])]
theorem mk_ob {r : Nat} (h : r < 9) (s : Sto) : runM false 30 F_OpenText___init__ [.d (.int 1), .d (.lst [.tup [.str "a", .tup [.int 1, .int (r : Int)]]])] s = .ok (.d (obR r)) s := by
  have : r = 0 ∨ r = 1 ∨ r = 2 ∨ r = 3 ∨ r = 4 ∨ r = 5 ∨ r = 6 ∨ r = 7 ∨ r = 8 := by omega
  rcases this with rfl | rfl | rfl | rfl | rfl | rfl | rfl | rfl | rfl <;> kernel_rfl
theorem vv_ob {r : Nat} (h : r < 9) : Vv (obR r) := by
  have : r = 0 ∨ r = 1 ∨ r = 2 ∨ r = 3 ∨ r = 4 ∨ r = 5 ∨ r = 6 ∨ r = 7 ∨ r = 8 := by omega
  refine ⟨fun s => ?_, false, fun s => rfl⟩
  rcases this with rfl | rfl | rfl | rfl | rfl | rfl | rfl | rfl | rfl <;> kernel_rfl
theorem runG2 {F : Fn} {xs : List Xv} {rest s2 : Sto} {l : D} {n n' : Nat} {o o' : O} (g : GI n o) (g' : GI n' o') (h : F (.ref 0 :: zero xs) [o] = .ok (.d l) (o' :: s2)) (h0 : refsOf xs = []) : runC false F (.ref 0 :: xs) (o :: rest) = .ok (.d l) (o' :: rest) := by
  obtain ⟨a, b, c, rfl, _⟩ := g
  obtain ⟨a', b', c', rfl, _⟩ := g'
  exact run1_d h h0
theorem pow30 (s) : powX (.d (.int 10)) (.d (.int 30)) s = .ok (.d (.int 1000000000000000000000000000000)) s := by
  show (if cPow 10 30 = true then Res.ok (.d (.int (10 ^ (30 : Int).toNat))) s else .stuck) = _
  rw [if_pos (by decide +kernel), show ((10 : Int) ^ (30 : Int).toNat) = 1000000000000000000000000000000 by decide +kernel]
theorem bd30' : BdOk 1000000000000000000000000000000 4 := ⟨by decide, by decide +kernel, by decide +kernel, by decide⟩
theorem value_ok {n : Nat} {o : O} (hg : GI (n + 2) o) : ∃ (v : D) (o' : O), (∀ rest, runC false F__law_value [.ref 0] (o :: rest) = .ok (.d v) (o' :: rest)) ∧ Vv v ∧ GI n o' := by
  obtain ⟨k', o1, q1, k0, k1, g1⟩ := rand_r (n := n + 1) (o := o) (bd := 6) hg (bdS (by decide) (by decide))
  have q1' := q1 false []
  suffices h : ∃ v o', F__law_value [.ref 0] [o] = .ok (.d v) [o'] ∧ Vv v ∧ GI n o' by
    obtain ⟨v, o', e, h1, h2⟩ := h
    exact ⟨v, o', fun rest => runG2 (s2 := []) hg h2 e rfl, h1, h2⟩
  have st : F__law_value [.ref 0] [o] = runOut ((seqS G1 (seqS G2 (seqS G3 (seqS G4 G5)))) [some (.ref 0), some (.d (.int k'))] [o1]) := by
    unfold F__law_value
    rw [e_body, g_S, e_seq]
    unfold G0
    simp only [e_seq, e_at_nx, e_at_rt, e_at_exc, e_skip, e_ret, e_set, e_expr, e_raise, e_bS, e_bSx, e_b, e_bx, e_bA, e_bLA, e_bL, e_lit, e_var, e_op2, e_nil, e_cons, e_callB, e_callF, e_and, e_or, e_not, e_ifS, e_if, t_bl, e_neg, e_okI, e_okB, e_out1, e_out2, e_out3, e_par2, e_slF, e_intF, prt_i, prt_n, e_tupF, pure_n, pure_c, mkL_f, e_lc, e_for, e_wipe0, e_wipe1, e_finL, seqD_t, seqD_l, e_joinF, e_strM, mulT_i, mulT_t, e_add, e_sub, e_lt, e_le, e_gt, e_ge, e_callKF, e_asg, e_lst0, List.map_nil, List.map_cons, List.append_nil, List.cons_append, List.nil_append, List.replicate, List.set, g_zero, g_succ, if_true, if_false, Bool.not_true, Bool.not_false, Bool.false_eq_true, decide_true, decide_false, Option.isSome_some, Option.map_some, c_nil, q1']
  by_cases c0 : k' = 0
  · obtain ⟨r, o2, q2, r0, r1, g2⟩ := rand_r (n := n) (o := o1) (bd := 1000000000000000000000000000000) g1 bd30'
    have q2' := q2 false []
    refine ⟨.int r, o2, ?_, vv_int r, g2⟩
    rw [st, e_seq]
    unfold G1
    simp only [e_seq, e_at_nx, e_at_rt, e_at_exc, e_skip, e_ret, e_set, e_expr, e_raise, e_bS, e_bSx, e_b, e_bx, e_bA, e_bLA, e_bL, e_lit, e_var, e_op2, e_nil, e_cons, e_callB, e_callF, e_and, e_or, e_not, e_ifS, e_if, t_bl, e_neg, e_okI, e_okB, e_out1, e_out2, e_out3, e_par2, e_slF, e_intF, prt_i, prt_n, e_tupF, pure_n, pure_c, mkL_f, e_lc, e_for, e_wipe0, e_wipe1, e_finL, seqD_t, seqD_l, e_joinF, e_strM, mulT_i, mulT_t, e_add, e_sub, e_lt, e_le, e_gt, e_ge, e_callKF, e_asg, e_lst0, List.map_nil, List.map_cons, List.append_nil, List.cons_append, List.nil_append, List.replicate, List.set, g_zero, g_succ, if_true, if_false, Bool.not_true, Bool.not_false, Bool.false_eq_true, decide_true, decide_false, Option.isSome_some, Option.map_some, c_nil, eq_ii, c0, pow30, q2']
  · by_cases c1 : k' = 1
    · obtain ⟨r, o2, q2, r0, r1, g2⟩ := rand_r (n := n) (o := o1) (bd := 3) g1 bd3
      have q2' := q2 false []
      have q3 := mulT_s false (l := [97, 98]) (k := r) [o2] r0 (by omega) (show r.toNat * 2 ≤ 1000000 by omega)
      refine ⟨sD (pw [97, 98] r.toNat), o2, ?_, vv_str (Lt.pw (by unfold Lt; decide) _), g2⟩
      rw [st, e_seq]
      unfold G1
      simp only [e_seq, e_at_nx, e_at_rt, e_at_exc, e_skip, e_ret, e_set, e_expr, e_raise, e_bS, e_bSx, e_b, e_bx, e_bA, e_bLA, e_bL, e_lit, e_var, e_op2, e_nil, e_cons, e_callB, e_callF, e_and, e_or, e_not, e_ifS, e_if, t_bl, e_neg, e_okI, e_okB, e_out1, e_out2, e_out3, e_par2, e_slF, e_intF, prt_i, prt_n, e_tupF, pure_n, pure_c, mkL_f, e_lc, e_for, e_wipe0, e_wipe1, e_finL, seqD_t, seqD_l, e_joinF, e_strM, mulT_i, mulT_t, e_add, e_sub, e_lt, e_le, e_gt, e_ge, e_callKF, e_asg, e_lst0, List.map_nil, List.map_cons, List.append_nil, List.cons_append, List.nil_append, List.replicate, List.set, g_zero, g_succ, if_true, if_false, Bool.not_true, Bool.not_false, Bool.false_eq_true, decide_true, decide_false, Option.isSome_some, Option.map_some, c_nil, eq_ii, c0]
      unfold G2
      rw [lit_ab]
      simp only [e_seq, e_at_nx, e_at_rt, e_at_exc, e_skip, e_ret, e_set, e_expr, e_raise, e_bS, e_bSx, e_b, e_bx, e_bA, e_bLA, e_bL, e_lit, e_var, e_op2, e_nil, e_cons, e_callB, e_callF, e_and, e_or, e_not, e_ifS, e_if, t_bl, e_neg, e_okI, e_okB, e_out1, e_out2, e_out3, e_par2, e_slF, e_intF, prt_i, prt_n, e_tupF, pure_n, pure_c, mkL_f, e_lc, e_for, e_wipe0, e_wipe1, e_finL, seqD_t, seqD_l, e_joinF, e_strM, mulT_i, mulT_t, e_add, e_sub, e_lt, e_le, e_gt, e_ge, e_callKF, e_asg, e_lst0, List.map_nil, List.map_cons, List.append_nil, List.cons_append, List.nil_append, List.replicate, List.set, g_zero, g_succ, if_true, if_false, Bool.not_true, Bool.not_false, Bool.false_eq_true, decide_true, decide_false, Option.isSome_some, Option.map_some, c_nil, eq_ii, c1, q2', q3]
    · by_cases c2 : k' = 2
      · obtain ⟨r, o2, q2, r0, r1, g2⟩ := rand_r (n := n) (o := o1) (bd := 9) g1 bd9
        have q2' := q2 false []
        refine ⟨.lst [.int r, .non], o2, ?_, vv_lst r, g2⟩
        rw [st, e_seq]
        unfold G1
        simp only [e_seq, e_at_nx, e_at_rt, e_at_exc, e_skip, e_ret, e_set, e_expr, e_raise, e_bS, e_bSx, e_b, e_bx, e_bA, e_bLA, e_bL, e_lit, e_var, e_op2, e_nil, e_cons, e_callB, e_callF, e_and, e_or, e_not, e_ifS, e_if, t_bl, e_neg, e_okI, e_okB, e_out1, e_out2, e_out3, e_par2, e_slF, e_intF, prt_i, prt_n, e_tupF, pure_n, pure_c, mkL_f, e_lc, e_for, e_wipe0, e_wipe1, e_finL, seqD_t, seqD_l, e_joinF, e_strM, mulT_i, mulT_t, e_add, e_sub, e_lt, e_le, e_gt, e_ge, e_callKF, e_asg, e_lst0, List.map_nil, List.map_cons, List.append_nil, List.cons_append, List.nil_append, List.replicate, List.set, g_zero, g_succ, if_true, if_false, Bool.not_true, Bool.not_false, Bool.false_eq_true, decide_true, decide_false, Option.isSome_some, Option.map_some, c_nil, eq_ii, c0]
        unfold G2
        simp only [e_seq, e_at_nx, e_at_rt, e_at_exc, e_skip, e_ret, e_set, e_expr, e_raise, e_bS, e_bSx, e_b, e_bx, e_bA, e_bLA, e_bL, e_lit, e_var, e_op2, e_nil, e_cons, e_callB, e_callF, e_and, e_or, e_not, e_ifS, e_if, t_bl, e_neg, e_okI, e_okB, e_out1, e_out2, e_out3, e_par2, e_slF, e_intF, prt_i, prt_n, e_tupF, pure_n, pure_c, mkL_f, e_lc, e_for, e_wipe0, e_wipe1, e_finL, seqD_t, seqD_l, e_joinF, e_strM, mulT_i, mulT_t, e_add, e_sub, e_lt, e_le, e_gt, e_ge, e_callKF, e_asg, e_lst0, List.map_nil, List.map_cons, List.append_nil, List.cons_append, List.nil_append, List.replicate, List.set, g_zero, g_succ, if_true, if_false, Bool.not_true, Bool.not_false, Bool.false_eq_true, decide_true, decide_false, Option.isSome_some, Option.map_some, c_nil, eq_ii, c1]
        unfold G3
        simp only [e_seq, e_at_nx, e_at_rt, e_at_exc, e_skip, e_ret, e_set, e_expr, e_raise, e_bS, e_bSx, e_b, e_bx, e_bA, e_bLA, e_bL, e_lit, e_var, e_op2, e_nil, e_cons, e_callB, e_callF, e_and, e_or, e_not, e_ifS, e_if, t_bl, e_neg, e_okI, e_okB, e_out1, e_out2, e_out3, e_par2, e_slF, e_intF, prt_i, prt_n, e_tupF, pure_n, pure_c, mkL_f, e_lc, e_for, e_wipe0, e_wipe1, e_finL, seqD_t, seqD_l, e_joinF, e_strM, mulT_i, mulT_t, e_add, e_sub, e_lt, e_le, e_gt, e_ge, e_callKF, e_asg, e_lst0, List.map_nil, List.map_cons, List.append_nil, List.cons_append, List.nil_append, List.replicate, List.set, g_zero, g_succ, if_true, if_false, Bool.not_true, Bool.not_false, Bool.false_eq_true, decide_true, decide_false, Option.isSome_some, Option.map_some, c_nil, eq_ii, c2, q2', e_lstF]
        rfl
      · by_cases c3 : k' = 3
        · obtain ⟨r, o2, q2, r0, r1, g2⟩ := rand_r (n := n) (o := o1) (bd := 9) g1 bd9
          have q2' := q2 false []
          refine ⟨.tup [.str "main", .tup [.int r]], o2, ?_, vv_tup r, g2⟩
          rw [st, e_seq]
          unfold G1
          simp only [e_seq, e_at_nx, e_at_rt, e_at_exc, e_skip, e_ret, e_set, e_expr, e_raise, e_bS, e_bSx, e_b, e_bx, e_bA, e_bLA, e_bL, e_lit, e_var, e_op2, e_nil, e_cons, e_callB, e_callF, e_and, e_or, e_not, e_ifS, e_if, t_bl, e_neg, e_okI, e_okB, e_out1, e_out2, e_out3, e_par2, e_slF, e_intF, prt_i, prt_n, e_tupF, pure_n, pure_c, mkL_f, e_lc, e_for, e_wipe0, e_wipe1, e_finL, seqD_t, seqD_l, e_joinF, e_strM, mulT_i, mulT_t, e_add, e_sub, e_lt, e_le, e_gt, e_ge, e_callKF, e_asg, e_lst0, List.map_nil, List.map_cons, List.append_nil, List.cons_append, List.nil_append, List.replicate, List.set, g_zero, g_succ, if_true, if_false, Bool.not_true, Bool.not_false, Bool.false_eq_true, decide_true, decide_false, Option.isSome_some, Option.map_some, c_nil, eq_ii, c0]
          unfold G2
          simp only [e_seq, e_at_nx, e_at_rt, e_at_exc, e_skip, e_ret, e_set, e_expr, e_raise, e_bS, e_bSx, e_b, e_bx, e_bA, e_bLA, e_bL, e_lit, e_var, e_op2, e_nil, e_cons, e_callB, e_callF, e_and, e_or, e_not, e_ifS, e_if, t_bl, e_neg, e_okI, e_okB, e_out1, e_out2, e_out3, e_par2, e_slF, e_intF, prt_i, prt_n, e_tupF, pure_n, pure_c, mkL_f, e_lc, e_for, e_wipe0, e_wipe1, e_finL, seqD_t, seqD_l, e_joinF, e_strM, mulT_i, mulT_t, e_add, e_sub, e_lt, e_le, e_gt, e_ge, e_callKF, e_asg, e_lst0, List.map_nil, List.map_cons, List.append_nil, List.cons_append, List.nil_append, List.replicate, List.set, g_zero, g_succ, if_true, if_false, Bool.not_true, Bool.not_false, Bool.false_eq_true, decide_true, decide_false, Option.isSome_some, Option.map_some, c_nil, eq_ii, c1]
          unfold G3
          simp only [e_seq, e_at_nx, e_at_rt, e_at_exc, e_skip, e_ret, e_set, e_expr, e_raise, e_bS, e_bSx, e_b, e_bx, e_bA, e_bLA, e_bL, e_lit, e_var, e_op2, e_nil, e_cons, e_callB, e_callF, e_and, e_or, e_not, e_ifS, e_if, t_bl, e_neg, e_okI, e_okB, e_out1, e_out2, e_out3, e_par2, e_slF, e_intF, prt_i, prt_n, e_tupF, pure_n, pure_c, mkL_f, e_lc, e_for, e_wipe0, e_wipe1, e_finL, seqD_t, seqD_l, e_joinF, e_strM, mulT_i, mulT_t, e_add, e_sub, e_lt, e_le, e_gt, e_ge, e_callKF, e_asg, e_lst0, List.map_nil, List.map_cons, List.append_nil, List.cons_append, List.nil_append, List.replicate, List.set, g_zero, g_succ, if_true, if_false, Bool.not_true, Bool.not_false, Bool.false_eq_true, decide_true, decide_false, Option.isSome_some, Option.map_some, c_nil, eq_ii, c2]
          unfold G4
          simp only [e_seq, e_at_nx, e_at_rt, e_at_exc, e_skip, e_ret, e_set, e_expr, e_raise, e_bS, e_bSx, e_b, e_bx, e_bA, e_bLA, e_bL, e_lit, e_var, e_op2, e_nil, e_cons, e_callB, e_callF, e_and, e_or, e_not, e_ifS, e_if, t_bl, e_neg, e_okI, e_okB, e_out1, e_out2, e_out3, e_par2, e_slF, e_intF, prt_i, prt_n, e_tupF, pure_n, pure_c, mkL_f, e_lc, e_for, e_wipe0, e_wipe1, e_finL, seqD_t, seqD_l, e_joinF, e_strM, mulT_i, mulT_t, e_add, e_sub, e_lt, e_le, e_gt, e_ge, e_callKF, e_asg, e_lst0, List.map_nil, List.map_cons, List.append_nil, List.cons_append, List.nil_append, List.replicate, List.set, g_zero, g_succ, if_true, if_false, Bool.not_true, Bool.not_false, Bool.false_eq_true, decide_true, decide_false, Option.isSome_some, Option.map_some, c_nil, eq_ii, c3, q2']
          rfl
        · by_cases c4 : k' = 4
          · refine ⟨.non, o1, ?_, vv_non, g1.le (by omega)⟩
            rw [st, e_seq]
            unfold G1
            simp only [e_seq, e_at_nx, e_at_rt, e_at_exc, e_skip, e_ret, e_set, e_expr, e_raise, e_bS, e_bSx, e_b, e_bx, e_bA, e_bLA, e_bL, e_lit, e_var, e_op2, e_nil, e_cons, e_callB, e_callF, e_and, e_or, e_not, e_ifS, e_if, t_bl, e_neg, e_okI, e_okB, e_out1, e_out2, e_out3, e_par2, e_slF, e_intF, prt_i, prt_n, e_tupF, pure_n, pure_c, mkL_f, e_lc, e_for, e_wipe0, e_wipe1, e_finL, seqD_t, seqD_l, e_joinF, e_strM, mulT_i, mulT_t, e_add, e_sub, e_lt, e_le, e_gt, e_ge, e_callKF, e_asg, e_lst0, List.map_nil, List.map_cons, List.append_nil, List.cons_append, List.nil_append, List.replicate, List.set, g_zero, g_succ, if_true, if_false, Bool.not_true, Bool.not_false, Bool.false_eq_true, decide_true, decide_false, Option.isSome_some, Option.map_some, c_nil, eq_ii, c0]
            unfold G2
            simp only [e_seq, e_at_nx, e_at_rt, e_at_exc, e_skip, e_ret, e_set, e_expr, e_raise, e_bS, e_bSx, e_b, e_bx, e_bA, e_bLA, e_bL, e_lit, e_var, e_op2, e_nil, e_cons, e_callB, e_callF, e_and, e_or, e_not, e_ifS, e_if, t_bl, e_neg, e_okI, e_okB, e_out1, e_out2, e_out3, e_par2, e_slF, e_intF, prt_i, prt_n, e_tupF, pure_n, pure_c, mkL_f, e_lc, e_for, e_wipe0, e_wipe1, e_finL, seqD_t, seqD_l, e_joinF, e_strM, mulT_i, mulT_t, e_add, e_sub, e_lt, e_le, e_gt, e_ge, e_callKF, e_asg, e_lst0, List.map_nil, List.map_cons, List.append_nil, List.cons_append, List.nil_append, List.replicate, List.set, g_zero, g_succ, if_true, if_false, Bool.not_true, Bool.not_false, Bool.false_eq_true, decide_true, decide_false, Option.isSome_some, Option.map_some, c_nil, eq_ii, c1]
            unfold G3
            simp only [e_seq, e_at_nx, e_at_rt, e_at_exc, e_skip, e_ret, e_set, e_expr, e_raise, e_bS, e_bSx, e_b, e_bx, e_bA, e_bLA, e_bL, e_lit, e_var, e_op2, e_nil, e_cons, e_callB, e_callF, e_and, e_or, e_not, e_ifS, e_if, t_bl, e_neg, e_okI, e_okB, e_out1, e_out2, e_out3, e_par2, e_slF, e_intF, prt_i, prt_n, e_tupF, pure_n, pure_c, mkL_f, e_lc, e_for, e_wipe0, e_wipe1, e_finL, seqD_t, seqD_l, e_joinF, e_strM, mulT_i, mulT_t, e_add, e_sub, e_lt, e_le, e_gt, e_ge, e_callKF, e_asg, e_lst0, List.map_nil, List.map_cons, List.append_nil, List.cons_append, List.nil_append, List.replicate, List.set, g_zero, g_succ, if_true, if_false, Bool.not_true, Bool.not_false, Bool.false_eq_true, decide_true, decide_false, Option.isSome_some, Option.map_some, c_nil, eq_ii, c2]
            unfold G4
            simp only [e_seq, e_at_nx, e_at_rt, e_at_exc, e_skip, e_ret, e_set, e_expr, e_raise, e_bS, e_bSx, e_b, e_bx, e_bA, e_bLA, e_bL, e_lit, e_var, e_op2, e_nil, e_cons, e_callB, e_callF, e_and, e_or, e_not, e_ifS, e_if, t_bl, e_neg, e_okI, e_okB, e_out1, e_out2, e_out3, e_par2, e_slF, e_intF, prt_i, prt_n, e_tupF, pure_n, pure_c, mkL_f, e_lc, e_for, e_wipe0, e_wipe1, e_finL, seqD_t, seqD_l, e_joinF, e_strM, mulT_i, mulT_t, e_add, e_sub, e_lt, e_le, e_gt, e_ge, e_callKF, e_asg, e_lst0, List.map_nil, List.map_cons, List.append_nil, List.cons_append, List.nil_append, List.replicate, List.set, g_zero, g_succ, if_true, if_false, Bool.not_true, Bool.not_false, Bool.false_eq_true, decide_true, decide_false, Option.isSome_some, Option.map_some, c_nil, eq_ii, c3]
            unfold G5
            simp only [e_seq, e_at_nx, e_at_rt, e_at_exc, e_skip, e_ret, e_set, e_expr, e_raise, e_bS, e_bSx, e_b, e_bx, e_bA, e_bLA, e_bL, e_lit, e_var, e_op2, e_nil, e_cons, e_callB, e_callF, e_and, e_or, e_not, e_ifS, e_if, t_bl, e_neg, e_okI, e_okB, e_out1, e_out2, e_out3, e_par2, e_slF, e_intF, prt_i, prt_n, e_tupF, pure_n, pure_c, mkL_f, e_lc, e_for, e_wipe0, e_wipe1, e_finL, seqD_t, seqD_l, e_joinF, e_strM, mulT_i, mulT_t, e_add, e_sub, e_lt, e_le, e_gt, e_ge, e_callKF, e_asg, e_lst0, List.map_nil, List.map_cons, List.append_nil, List.cons_append, List.nil_append, List.replicate, List.set, g_zero, g_succ, if_true, if_false, Bool.not_true, Bool.not_false, Bool.false_eq_true, decide_true, decide_false, Option.isSome_some, Option.map_some, c_nil, eq_ii, c4]
          · obtain ⟨r', o2, q2, r0, r1, g2⟩ := rand_r (n := n) (o := o1) (bd := 9) g1 bd9
            obtain ⟨r, rfl, hr⟩ := nat_of r0 (b := 9) r1
            have q2' := q2 false []
            have q3 := mk_ob hr [o2]
            refine ⟨obR r, o2, ?_, vv_ob hr, g2⟩
            rw [st, e_seq]
            unfold G1
            simp only [e_seq, e_at_nx, e_at_rt, e_at_exc, e_skip, e_ret, e_set, e_expr, e_raise, e_bS, e_bSx, e_b, e_bx, e_bA, e_bLA, e_bL, e_lit, e_var, e_op2, e_nil, e_cons, e_callB, e_callF, e_and, e_or, e_not, e_ifS, e_if, t_bl, e_neg, e_okI, e_okB, e_out1, e_out2, e_out3, e_par2, e_slF, e_intF, prt_i, prt_n, e_tupF, pure_n, pure_c, mkL_f, e_lc, e_for, e_wipe0, e_wipe1, e_finL, seqD_t, seqD_l, e_joinF, e_strM, mulT_i, mulT_t, e_add, e_sub, e_lt, e_le, e_gt, e_ge, e_callKF, e_asg, e_lst0, List.map_nil, List.map_cons, List.append_nil, List.cons_append, List.nil_append, List.replicate, List.set, g_zero, g_succ, if_true, if_false, Bool.not_true, Bool.not_false, Bool.false_eq_true, decide_true, decide_false, Option.isSome_some, Option.map_some, c_nil, eq_ii, c0]
            unfold G2
            simp only [e_seq, e_at_nx, e_at_rt, e_at_exc, e_skip, e_ret, e_set, e_expr, e_raise, e_bS, e_bSx, e_b, e_bx, e_bA, e_bLA, e_bL, e_lit, e_var, e_op2, e_nil, e_cons, e_callB, e_callF, e_and, e_or, e_not, e_ifS, e_if, t_bl, e_neg, e_okI, e_okB, e_out1, e_out2, e_out3, e_par2, e_slF, e_intF, prt_i, prt_n, e_tupF, pure_n, pure_c, mkL_f, e_lc, e_for, e_wipe0, e_wipe1, e_finL, seqD_t, seqD_l, e_joinF, e_strM, mulT_i, mulT_t, e_add, e_sub, e_lt, e_le, e_gt, e_ge, e_callKF, e_asg, e_lst0, List.map_nil, List.map_cons, List.append_nil, List.cons_append, List.nil_append, List.replicate, List.set, g_zero, g_succ, if_true, if_false, Bool.not_true, Bool.not_false, Bool.false_eq_true, decide_true, decide_false, Option.isSome_some, Option.map_some, c_nil, eq_ii, c1]
            unfold G3
            simp only [e_seq, e_at_nx, e_at_rt, e_at_exc, e_skip, e_ret, e_set, e_expr, e_raise, e_bS, e_bSx, e_b, e_bx, e_bA, e_bLA, e_bL, e_lit, e_var, e_op2, e_nil, e_cons, e_callB, e_callF, e_and, e_or, e_not, e_ifS, e_if, t_bl, e_neg, e_okI, e_okB, e_out1, e_out2, e_out3, e_par2, e_slF, e_intF, prt_i, prt_n, e_tupF, pure_n, pure_c, mkL_f, e_lc, e_for, e_wipe0, e_wipe1, e_finL, seqD_t, seqD_l, e_joinF, e_strM, mulT_i, mulT_t, e_add, e_sub, e_lt, e_le, e_gt, e_ge, e_callKF, e_asg, e_lst0, List.map_nil, List.map_cons, List.append_nil, List.cons_append, List.nil_append, List.replicate, List.set, g_zero, g_succ, if_true, if_false, Bool.not_true, Bool.not_false, Bool.false_eq_true, decide_true, decide_false, Option.isSome_some, Option.map_some, c_nil, eq_ii, c2]
            unfold G4
            simp only [e_seq, e_at_nx, e_at_rt, e_at_exc, e_skip, e_ret, e_set, e_expr, e_raise, e_bS, e_bSx, e_b, e_bx, e_bA, e_bLA, e_bL, e_lit, e_var, e_op2, e_nil, e_cons, e_callB, e_callF, e_and, e_or, e_not, e_ifS, e_if, t_bl, e_neg, e_okI, e_okB, e_out1, e_out2, e_out3, e_par2, e_slF, e_intF, prt_i, prt_n, e_tupF, pure_n, pure_c, mkL_f, e_lc, e_for, e_wipe0, e_wipe1, e_finL, seqD_t, seqD_l, e_joinF, e_strM, mulT_i, mulT_t, e_add, e_sub, e_lt, e_le, e_gt, e_ge, e_callKF, e_asg, e_lst0, List.map_nil, List.map_cons, List.append_nil, List.cons_append, List.nil_append, List.replicate, List.set, g_zero, g_succ, if_true, if_false, Bool.not_true, Bool.not_false, Bool.false_eq_true, decide_true, decide_false, Option.isSome_some, Option.map_some, c_nil, eq_ii, c3]
            unfold G5
            simp only [e_seq, e_at_nx, e_at_rt, e_at_exc, e_skip, e_ret, e_set, e_expr, e_raise, e_bS, e_bSx, e_b, e_bx, e_bA, e_bLA, e_bL, e_lit, e_var, e_op2, e_nil, e_cons, e_callB, e_callF, e_and, e_or, e_not, e_ifS, e_if, t_bl, e_neg, e_okI, e_okB, e_out1, e_out2, e_out3, e_par2, e_slF, e_intF, prt_i, prt_n, e_tupF, pure_n, pure_c, mkL_f, e_lc, e_for, e_wipe0, e_wipe1, e_finL, seqD_t, seqD_l, e_joinF, e_strM, mulT_i, mulT_t, e_add, e_sub, e_lt, e_le, e_gt, e_ge, e_callKF, e_asg, e_lst0, List.map_nil, List.map_cons, List.append_nil, List.cons_append, List.nil_append, List.replicate, List.set, g_zero, g_succ, if_true, if_false, Bool.not_true, Bool.not_false, Bool.false_eq_true, decide_true, decide_false, Option.isSome_some, Option.map_some, c_nil, eq_ii, c4, q2', e_lstF, e_make, List.length_cons, List.length_nil, Nat.reduceAdd, Nat.reduceLeDiff, q3]
end FL

set_option Elab.async false
set_option linter.all false
set_option maxRecDepth 100000
set_option maxHeartbeats 1000000
namespace FL
open PySem PySem.Spec PyProof.Rows L2
def nmN (n : Nat) : Str := if n = 26 then "place" else "value"
abbrev erN (n : Nat) (v : D) : D := .exc (n + 1) [nmN n] [v]
theorem ns27 {n : Nat} (h : n < 27) : n = 0 ∨ n = 1 ∨ n = 2 ∨ n = 3 ∨ n = 4 ∨ n = 5 ∨ n = 6 ∨ n = 7 ∨ n = 8 ∨ n = 9 ∨ n = 10 ∨ n = 11 ∨ n = 12 ∨ n = 13 ∨ n = 14 ∨ n = 15 ∨ n = 16 ∨ n = 17 ∨ n = 18 ∨ n = 19 ∨ n = 20 ∨ n = 21 ∨ n = 22 ∨ n = 23 ∨ n = 24 ∨ n = 25 ∨ n = 26 := by omega
theorem v0 {n : Nat} (h : n < 27) (v : D) (x0 x1 x4 x5 x6 x7 : Option Xv) (s : Sto) : V0 [x0, x1, some (.d v), some (.d (.int (n : Int))), x4, x5, x6, x7] s = .nx [x0, x1, some (.d v), some (.d (.int (n : Int))), some (.d (erN n v)), x5, x6, x7] s := by
  rcases ns27 h with rfl | rfl | rfl | rfl | rfl | rfl | rfl | rfl | rfl | rfl | rfl | rfl | rfl | rfl | rfl | rfl | rfl | rfl | rfl | rfl | rfl | rfl | rfl | rfl | rfl | rfl | rfl <;> kernel_rfl
theorem v1 {n : Nat} (h : n < 27) (v : D) (x0 x1 x5 x6 x7 : Option Xv) (s : Sto) : V1 [x0, x1, some (.d v), some (.d (.int (n : Int))), some (.d (erN n v)), x5, x6, x7] s = .nx [x0, x1, some (.d v), some (.d (.int (n : Int))), some (.d (erN n v)), x5, x6, x7] s := by
  rcases ns27 h with rfl | rfl | rfl | rfl | rfl | rfl | rfl | rfl | rfl | rfl | rfl | rfl | rfl | rfl | rfl | rfl | rfl | rfl | rfl | rfl | rfl | rfl | rfl | rfl | rfl | rfl | rfl <;> kernel_rfl
theorem v2 {n : Nat} (h : n < 27) (v : D) (x0 x1 x5 x6 x7 : Option Xv) (s : Sto) : V2 [x0, x1, some (.d v), some (.d (.int (n : Int))), some (.d (erN n v)), x5, x6, x7] s = .nx [x0, x1, some (.d v), some (.d (.int (n : Int))), some (.d (erN n v)), x5, x6, x7] s := by
  rcases ns27 h with rfl | rfl | rfl | rfl | rfl | rfl | rfl | rfl | rfl | rfl | rfl | rfl | rfl | rfl | rfl | rfl | rfl | rfl | rfl | rfl | rfl | rfl | rfl | rfl | rfl | rfl | rfl <;> kernel_rfl
theorem v3 {n : Nat} (h : n < 27) (v : D) (x0 x1 x5 x6 x7 : Option Xv) (s : Sto) : V3 [x0, x1, some (.d v), some (.d (.int (n : Int))), some (.d (erN n v)), x5, x6, x7] s = .nx [x0, x1, some (.d v), some (.d (.int (n : Int))), some (.d (erN n v)), x5, some (.d v), x7] s := by
  rcases ns27 h with rfl | rfl | rfl | rfl | rfl | rfl | rfl | rfl | rfl | rfl | rfl | rfl | rfl | rfl | rfl | rfl | rfl | rfl | rfl | rfl | rfl | rfl | rfl | rfl | rfl | rfl | rfl <;> kernel_rfl
theorem v4 {v : D} (hv : Vv v) (x0 x1 x3 x4 x5 x7 : Option Xv) (s : Sto) : V4 [x0, x1, some (.d v), x3, x4, x5, some (.d v), x7] s = .nx [x0, x1, some (.d v), x3, x4, x5, some (.d v), x7] s := by
  obtain ⟨b, hb⟩ := hv.nn
  have e := eq_bb true b b s
  have e' : eqX true (.d (.bl b)) (.d (.bl b)) s = .ok (.d (.bl false)) s := by rw [e]; simp
  unfold V4
  simp only [e_seq, e_at_nx, e_at_rt, e_at_exc, e_skip, e_ret, e_set, e_expr, e_raise, e_bS, e_bSx, e_b, e_bx, e_bA, e_bLA, e_bL, e_lit, e_var, e_op2, e_nil, e_cons, e_callB, e_callF, e_and, e_or, e_not, e_ifS, e_if, t_bl, e_neg, e_okI, e_okB, e_out1, e_out2, e_out3, e_par2, e_slF, e_intF, prt_i, prt_n, e_tupF, pure_n, pure_c, mkL_f, e_lc, e_for, e_wipe0, e_wipe1, e_finL, seqD_t, seqD_l, e_joinF, e_strM, mulT_i, mulT_t, e_add, e_sub, e_lt, e_le, e_gt, e_ge, e_callKF, e_asg, e_lst0, List.map_nil, List.map_cons, List.append_nil, List.cons_append, List.nil_append, List.replicate, List.set, g_zero, g_succ, if_true, if_false, Bool.not_true, Bool.not_false, Bool.false_eq_true, decide_true, decide_false, Option.isSome_some, Option.map_some, c_nil, hv.eq s, hb s, e']
theorem b1_v {n : Nat} (h : n < 27) {v : D} (hv : Vv v) (x0 x1 x4 x5 x6 x7 : Option Xv) (s : Sto) : B1_law [x0, x1, some (.d v), some (.d (.int (n : Int))), x4, x5, x6, x7] s = .nx [x0, x1, some (.d v), some (.d (.int (n : Int))), some (.d (erN n v)), x5, some (.d v), x7] s := by
  rw [v_B1]
  exact seq_go (v0 h v x0 x1 x4 x5 x6 x7 s) (seq_go (v1 h v x0 x1 x5 x6 x7 s) (seq_go (v2 h v x0 x1 x5 x6 x7 s) (seq_go (v3 h v x0 x1 x5 x6 x7 s) (v4 hv _ _ _ _ _ _ s))))
theorem named_v (v : D) (s : Sto) : runC false F__law_named [.d v] s = .ok (.d (.lst (List.replicate 27 v))) s := by kernel_rfl
theorem u3 {v : D} (hv : Vv v) (x0 x1 x3 x4 x5 x6 x7 : Option Xv) (s : Sto) : U3 [x0, x1, some (.d v), x3, x4, x5, x6, x7] s = .nx [x0, x1, some (.d v), x3, x4, x5, x6, x7] s := by
  obtain ⟨L, hL, hl⟩ : ∃ L, L = List.replicate 27 v ∧ L.length ≤ 1000000 := ⟨_, rfl, by simp⟩
  have q := named_v v s
  rw [← hL] at q
  have e := compN_none (asg := nameG 7) (t := T2_law) (f := E3_law) (ρ := [x0, x1, some (.d v), x3, x4, x5, x6, none]) (s := s) L (fun x hx => by
    have : x = v := List.eq_of_mem_replicate (hL ▸ hx)
    subst this
    refine ⟨_, rfl, ?_⟩
    unfold T2_law
    simp only [e_seq, e_at_nx, e_at_rt, e_at_exc, e_skip, e_ret, e_set, e_expr, e_raise, e_bS, e_bSx, e_b, e_bx, e_bA, e_bLA, e_bL, e_lit, e_var, e_op2, e_nil, e_cons, e_callB, e_callF, e_and, e_or, e_not, e_ifS, e_if, t_bl, e_neg, e_okI, e_okB, e_out1, e_out2, e_out3, e_par2, e_slF, e_intF, prt_i, prt_n, e_tupF, pure_n, pure_c, mkL_f, e_lc, e_for, e_wipe0, e_wipe1, e_finL, seqD_t, seqD_l, e_joinF, e_strM, mulT_i, mulT_t, e_add, e_sub, e_lt, e_le, e_gt, e_ge, e_callKF, e_asg, e_lst0, List.map_nil, List.map_cons, List.append_nil, List.cons_append, List.nil_append, List.replicate, List.set, g_zero, g_succ, if_true, if_false, Bool.not_true, Bool.not_false, Bool.false_eq_true, decide_true, decide_false, Option.isSome_some, Option.map_some, c_nil, hv.eq s])
  have e2 := eq_nn true s
  unfold U3 iterF
  simp only [e_seq, e_at_nx, e_at_rt, e_at_exc, e_skip, e_ret, e_set, e_expr, e_raise, e_bS, e_bSx, e_b, e_bx, e_bA, e_bLA, e_bL, e_lit, e_var, e_op2, e_nil, e_cons, e_callB, e_callF, e_and, e_or, e_not, e_ifS, e_if, t_bl, e_neg, e_okI, e_okB, e_out1, e_out2, e_out3, e_par2, e_slF, e_intF, prt_i, prt_n, e_tupF, pure_n, pure_c, mkL_f, e_lc, e_for, e_wipe0, e_wipe1, e_finL, seqD_t, seqD_l, e_joinF, e_strM, mulT_i, mulT_t, e_add, e_sub, e_lt, e_le, e_gt, e_ge, e_callKF, e_asg, e_lst0, List.map_nil, List.map_cons, List.append_nil, List.cons_append, List.nil_append, List.replicate, List.set, g_zero, g_succ, if_true, if_false, Bool.not_true, Bool.not_false, Bool.false_eq_true, decide_true, decide_false, Option.isSome_some, Option.map_some, c_nil, q]
  rw [if_pos hl, e]
  simp only [e_seq, e_at_nx, e_at_rt, e_at_exc, e_skip, e_ret, e_set, e_expr, e_raise, e_bS, e_bSx, e_b, e_bx, e_bA, e_bLA, e_bL, e_lit, e_var, e_op2, e_nil, e_cons, e_callB, e_callF, e_and, e_or, e_not, e_ifS, e_if, t_bl, e_neg, e_okI, e_okB, e_out1, e_out2, e_out3, e_par2, e_slF, e_intF, prt_i, prt_n, e_tupF, pure_n, pure_c, mkL_f, e_lc, e_for, e_wipe0, e_wipe1, e_finL, seqD_t, seqD_l, e_joinF, e_strM, mulT_i, mulT_t, e_add, e_sub, e_lt, e_le, e_gt, e_ge, e_callKF, e_asg, e_lst0, List.map_nil, List.map_cons, List.append_nil, List.cons_append, List.nil_append, List.replicate, List.set, g_zero, g_succ, if_true, if_false, Bool.not_true, Bool.not_false, Bool.false_eq_true, decide_true, decide_false, Option.isSome_some, Option.map_some, c_nil, e2]
theorem u4 (v : D) (x0 x1 x3 x4 x5 x6 x7 : Option Xv) (s : Sto) : U4 [x0, x1, some (.d v), x3, x4, x5, x6, x7] s = .nx [x0, x1, some (.d v), some (.d (.int 1)), some (.d (.exc 29 [] [])), x5, x6, x7] s := by kernel_rfl
theorem u5 (x0 x1 x2 x3 x4 x5 x6 x7 : Option Xv) (s : Sto) : U5 [x0, x1, x2, x3, x4, x5, x6, x7] s = .rt (.d (.bl true)) s := by kernel_rfl
theorem law_ok (ns : List Int) : ∃ s, F_law [.d (.scr ns)] [] = .ok (.d (.bl true)) s := by
  obtain ⟨o, q0, g0⟩ := gen_r ns (i := 0) (by decide) []
  obtain ⟨v, o1, q1, hv, g1⟩ := value_ok (n := 100) (g0.le (by decide))
  have q1' := q1 []
  obtain ⟨ρ', s', l, x4, x5, x6, x7, x3, rfl, rfl⟩ := forF_inv (asg := nameG 3) (b := B1_law) (fun i ρ s => ∃ x4 x5 x6 x7 x3 : Option Xv, ρ = [some (.d (.scr ns)), some (.ref 0), some (.d v), x3, x4, x5, x6, x7] ∧ s = [o1]) (rngD 0 27) 0 (ρ := [some (.d (.scr ns)), some (.ref 0), some (.d v), none, none, none, none, none]) (s := [o1]) ⟨none, none, none, none, none, rfl, rfl⟩ (fun i x ρ s hi hI => by
    obtain ⟨hi3, rfl⟩ := rng_at hi
    rw [Int.zero_add]
    obtain ⟨x4, x5, x6, x7, x3, rfl, rfl⟩ := hI
    exact ⟨_, _, _, rfl, b1_v hi3 hv _ _ x4 x5 x6 x7 [o1], _, _, _, _, _, rfl, rfl⟩)
  refine ⟨[o1], ?_⟩
  unfold F_law
  rw [e_body, u_S]
  show runOut (seqS U0 _ [some (.d (.scr ns)), none, none, none, none, none, none, none] []) = _
  rw [seq_go (r := [some (.d (.scr ns)), some (.ref 0), none, none, none, none, none, none]) (s2 := [o]) (by
    unfold U0
    have q0' : runC true F__law_generator [.d (.scr ns), .d (.int 0)] [] = .ok (.ref 0) [o] := q0
    simp only [e_seq, e_at_nx, e_at_rt, e_at_exc, e_skip, e_ret, e_set, e_expr, e_raise, e_bS, e_bSx, e_b, e_bx, e_bA, e_bLA, e_bL, e_lit, e_var, e_op2, e_nil, e_cons, e_callB, e_callF, e_and, e_or, e_not, e_ifS, e_if, t_bl, e_neg, e_okI, e_okB, e_out1, e_out2, e_out3, e_par2, e_slF, e_intF, prt_i, prt_n, e_tupF, pure_n, pure_c, mkL_f, e_lc, e_for, e_wipe0, e_wipe1, e_finL, seqD_t, seqD_l, e_joinF, e_strM, mulT_i, mulT_t, e_add, e_sub, e_lt, e_le, e_gt, e_ge, e_callKF, e_asg, e_lst0, List.map_nil, List.map_cons, List.append_nil, List.cons_append, List.nil_append, List.replicate, List.set, g_zero, g_succ, if_true, if_false, Bool.not_true, Bool.not_false, Bool.false_eq_true, decide_true, decide_false, Option.isSome_some, Option.map_some, c_nil, q0']) rfl]
  rw [seq_go (r := [some (.d (.scr ns)), some (.ref 0), some (.d v), none, none, none, none, none]) (s2 := [o1]) (by
    unfold U1
    simp only [e_seq, e_at_nx, e_at_rt, e_at_exc, e_skip, e_ret, e_set, e_expr, e_raise, e_bS, e_bSx, e_b, e_bx, e_bA, e_bLA, e_bL, e_lit, e_var, e_op2, e_nil, e_cons, e_callB, e_callF, e_and, e_or, e_not, e_ifS, e_if, t_bl, e_neg, e_okI, e_okB, e_out1, e_out2, e_out3, e_par2, e_slF, e_intF, prt_i, prt_n, e_tupF, pure_n, pure_c, mkL_f, e_lc, e_for, e_wipe0, e_wipe1, e_finL, seqD_t, seqD_l, e_joinF, e_strM, mulT_i, mulT_t, e_add, e_sub, e_lt, e_le, e_gt, e_ge, e_callKF, e_asg, e_lst0, List.map_nil, List.map_cons, List.append_nil, List.cons_append, List.nil_append, List.replicate, List.set, g_zero, g_succ, if_true, if_false, Bool.not_true, Bool.not_false, Bool.false_eq_true, decide_true, decide_false, Option.isSome_some, Option.map_some, c_nil, q1']) rfl]
  rw [seq_go (r := [some (.d (.scr ns)), some (.ref 0), some (.d v), x3, x4, x5, x6, x7]) (s2 := [o1]) (by
    unfold U2
    simp
    rw [e_rng _ _ (by decide) (by decide)]
    simp
    exact l) rfl]
  rw [seq_go (u3 hv _ _ _ _ _ _ _ [o1]) (seq_go (u4 v _ _ _ _ _ _ _ [o1]) (u5 _ _ _ _ _ _ _ _ [o1]))]
  rfl
end FL

set_option Elab.async false
set_option linter.all false
set_option maxRecDepth 100000
set_option maxHeartbeats 4000000
namespace FL
open PySem PySem.Spec PyProof.Rows L2
theorem law_fin {P : Program} {w : World} {K : PySem.W.Frag} {mg : Str → Option Value} {h : Heap} {ct : Nat → Addr} {f_is_whole f_is_between f_are_counts f_is_letters f_is_form_for f_check_number f_check_many f_plain f_is_open_form f_form_sum f_form_times f_borders f_root_of f_turned_word f_row_from f_start_of f_end_of_row f_is_piece f_measure f_check_pieces f_push_word f_push_power f_normal_pieces f_OpenText___init__ f_OpenText___eq__ f__law_hash f__law_generator f__law_random f__law_first f__law_second f__law_third f__law_fourth f__law_kinds f__law_empty f__law_named f__law_value f__law_made f_law lawA : Addr} (X : K.In h) (G : h.Ns mainGlobals mg) (B : Tb P K mg ct) (hl : mg "law" = some (.ref lawA))
    (mk_OpenText : PySem.W.makesIn K (ct 30) = true) (kp_OpenText : PySem.W.keepIn K (.ref (ct 30)) = true) (nf_OpenText : ∀ t ∈ knownT, PySem.W.notFirst K (ct 30) (.type t) = true)
    (a_is_whole : FnF K "is_whole" (top 34) f_is_whole)
    (a_is_between : FnF K "is_between" (top 35) f_is_between)
    (a_are_counts : FnF K "are_counts" (top 36) f_are_counts)
    (a_is_letters : FnF K "is_letters" (top 37) f_is_letters)
    (a_is_form_for : FnF K "is_form_for" (top 38) f_is_form_for)
    (a_check_number : FnF K "check_number" (top 39) f_check_number)
    (a_check_many : FnF K "check_many" (top 40) f_check_many)
    (a_plain : FnF K "plain" (top 42) f_plain)
    (a_is_open_form : FnF K "is_open_form" (top 43) f_is_open_form)
    (a_form_sum : FnF K "form_sum" (top 44) f_form_sum)
    (a_form_times : FnF K "form_times" (top 45) f_form_times)
    (a_borders : FnF K "borders" (top 47) f_borders)
    (a_root_of : FnF K "root_of" (top 48) f_root_of)
    (a_turned_word : FnF K "turned_word" (top 49) f_turned_word)
    (a_row_from : FnF K "row_from" (top 50) f_row_from)
    (a_start_of : FnF K "start_of" (top 51) f_start_of)
    (a_end_of_row : FnF K "end_of_row" (top 52) f_end_of_row)
    (a_is_piece : FnF K "is_piece" (top 57) f_is_piece)
    (a_measure : FnF K "measure" (top 58) f_measure)
    (a_check_pieces : FnF K "check_pieces" (top 59) f_check_pieces)
    (a_push_word : FnF K "push_word" (top 60) f_push_word)
    (a_push_power : FnF K "push_power" (top 61) f_push_power)
    (a_normal_pieces : FnF K "normal_pieces" (top 62) f_normal_pieces)
    (a_OpenText___init__ : MeF K (ct 30) "__init__" "OpenText.__init__" (mth 64 0) f_OpenText___init__)
    (a_OpenText___eq__ : MeF K (ct 30) "__eq__" "OpenText.__eq__" (mth 64 3) f_OpenText___eq__)
    (a__law_hash : FnF K "_law_hash" (top 66) f__law_hash)
    (a__law_generator : FnF K "_law_generator" (top 67) f__law_generator)
    (a__law_random : FnF K "_law_random" (top 68) f__law_random)
    (a__law_first : FnF K "_law_first" (top 70) f__law_first)
    (a__law_second : FnF K "_law_second" (top 71) f__law_second)
    (a__law_third : FnF K "_law_third" (top 72) f__law_third)
    (a__law_fourth : FnF K "_law_fourth" (top 73) f__law_fourth)
    (a__law_kinds : FnF K "_law_kinds" (top 74) f__law_kinds)
    (a__law_empty : FnF K "_law_empty" (top 75) f__law_empty)
    (a__law_named : FnF K "_law_named" (top 76) f__law_named)
    (a__law_value : FnF K "_law_value" (top 77) f__law_value)
    (a__law_made : FnF K "_law_made" (top 69) f__law_made)
    (a_law : FnF K "law" (top 78) f_law)
    : ∃ (T : Tx) (fd : FuncData), T.K = K ∧ (∀ (s : Shared) (u : Value), BindsTo s fd ⟨[u], []⟩ [("_law_script", u)]) ∧ ∀ base : Heap, K.In base → base.Ns mainGlobals mg → FnG P w K mg base 10 lawA fd ["_law_script"] (spF T 1 F_law) := by
  have hD_is_whole : ∀ base : Heap, Def (tx K ct) P w K mg base 1 "is_whole" ["value"] [] F_is_whole := fun base => def_mk a_is_whole (PySem.W.mg_of X G a_is_whole.ns) sc_is_whole rfl (fun _ _ _ _ _ _ us hl => match us, hl with | [_], _ => rfl) (fun q W hr tk hp => b_is_whole B  q W hr tk hp)
  have hD_is_between : ∀ base : Heap, Def (tx K ct) P w K mg base 2 "is_between" ["value", "low", "high"] [] F_is_between := fun base => def_mk a_is_between (PySem.W.mg_of X G a_is_between.ns) sc_is_between rfl (fun _ _ _ _ _ _ us hl => match us, hl with | [_, _, _], _ => rfl) (fun q W hr tk hp => b_is_between B (hD_is_whole base) q W hr tk hp)
  have hD_are_counts : ∀ base : Heap, Def (tx K ct) P w K mg base 3 "are_counts" ["items"] [] F_are_counts := fun base => def_mk a_are_counts (PySem.W.mg_of X G a_are_counts.ns) sc_are_counts rfl (fun _ _ _ _ _ _ us hl => match us, hl with | [_], _ => rfl) (fun q W hr tk hp => b_are_counts B (hD_is_between base) q W hr tk hp)
  have hD_is_letters : ∀ base : Heap, Def (tx K ct) P w K mg base 1 "is_letters" ["value", "most"] [] F_is_letters := fun base => def_mk a_is_letters (PySem.W.mg_of X G a_is_letters.ns) sc_is_letters rfl (fun _ _ _ _ _ _ us hl => match us, hl with | [_, _], _ => rfl) (fun q W hr tk hp => b_is_letters B  q W hr tk hp)
  have hD_is_form_for : ∀ base : Heap, Def (tx K ct) P w K mg base 4 "is_form_for" ["many", "value"] [] F_is_form_for := fun base => def_mk a_is_form_for (PySem.W.mg_of X G a_is_form_for.ns) sc_is_form_for rfl (fun _ _ _ _ _ _ us hl => match us, hl with | [_, _], _ => rfl) (fun q W hr tk hp => b_is_form_for B (hD_are_counts base) q W hr tk hp)
  have hD_check_number : ∀ base : Heap, Def (tx K ct) P w K mg base 3 "check_number" ["number", "low", "high"] [] F_check_number := fun base => def_mk a_check_number (PySem.W.mg_of X G a_check_number.ns) sc_check_number rfl (fun _ _ _ _ _ _ us hl => match us, hl with | [_, _, _], _ => rfl) (fun q W hr tk hp => b_check_number B (hD_is_between base) q W hr tk hp)
  have hD_check_many : ∀ base : Heap, Def (tx K ct) P w K mg base 4 "check_many" ["many"] [] F_check_many := fun base => def_mk a_check_many (PySem.W.mg_of X G a_check_many.ns) sc_check_many rfl (fun _ _ _ _ _ _ us hl => match us, hl with | [_], _ => rfl) (fun q W hr tk hp => b_check_many B (hD_check_number base) q W hr tk hp)
  have hD_plain : ∀ base : Heap, Def (tx K ct) P w K mg base 1 "plain" ["many", "number"] [] F_plain := fun base => def_mk a_plain (PySem.W.mg_of X G a_plain.ns) sc_plain rfl (fun _ _ _ _ _ _ us hl => match us, hl with | [_, _], _ => rfl) (fun q W hr tk hp => b_plain B  q W hr tk hp)
  have hD_is_open_form : ∀ base : Heap, Def (tx K ct) P w K mg base 1 "is_open_form" ["form"] [] F_is_open_form := fun base => def_mk a_is_open_form (PySem.W.mg_of X G a_is_open_form.ns) sc_is_open_form rfl (fun _ _ _ _ _ _ us hl => match us, hl with | [_], _ => rfl) (fun q W hr tk hp => b_is_open_form B  q W hr tk hp)
  have hD_form_sum : ∀ base : Heap, Def (tx K ct) P w K mg base 1 "form_sum" ["one", "other"] [] F_form_sum := fun base => def_mk a_form_sum (PySem.W.mg_of X G a_form_sum.ns) sc_form_sum rfl (fun _ _ _ _ _ _ us hl => match us, hl with | [_, _], _ => rfl) (fun q W hr tk hp => b_form_sum B  q W hr tk hp)
  have hD_form_times : ∀ base : Heap, Def (tx K ct) P w K mg base 1 "form_times" ["number", "form"] [] F_form_times := fun base => def_mk a_form_times (PySem.W.mg_of X G a_form_times.ns) sc_form_times rfl (fun _ _ _ _ _ _ us hl => match us, hl with | [_, _], _ => rfl) (fun q W hr tk hp => b_form_times B  q W hr tk hp)
  have hD_borders : ∀ base : Heap, Def (tx K ct) P w K mg base 1 "borders" ["word"] [] F_borders := fun base => def_mk a_borders (PySem.W.mg_of X G a_borders.ns) sc_borders rfl (fun _ _ _ _ _ _ us hl => match us, hl with | [_], _ => rfl) (fun q W hr tk hp => b_borders B  q W hr tk hp)
  have hD_root_of : ∀ base : Heap, Def (tx K ct) P w K mg base 2 "root_of" ["word"] [] F_root_of := fun base => def_mk a_root_of (PySem.W.mg_of X G a_root_of.ns) sc_root_of rfl (fun _ _ _ _ _ _ us hl => match us, hl with | [_], _ => rfl) (fun q W hr tk hp => b_root_of B (hD_borders base) q W hr tk hp)
  have hD_turned_word : ∀ base : Heap, Def (tx K ct) P w K mg base 1 "turned_word" ["word", "by"] [] F_turned_word := fun base => def_mk a_turned_word (PySem.W.mg_of X G a_turned_word.ns) sc_turned_word rfl (fun _ _ _ _ _ _ us hl => match us, hl with | [_, _], _ => rfl) (fun q W hr tk hp => b_turned_word B  q W hr tk hp)
  have hD_row_from : ∀ base : Heap, Def (tx K ct) P w K mg base 2 "row_from" ["word", "start", "many"] [] F_row_from := fun base => def_mk a_row_from (PySem.W.mg_of X G a_row_from.ns) sc_row_from rfl (fun _ _ _ _ _ _ us hl => match us, hl with | [_, _, _], _ => rfl) (fun q W hr tk hp => b_row_from B (hD_turned_word base) q W hr tk hp)
  have hD_start_of : ∀ base : Heap, Def (tx K ct) P w K mg base 1 "start_of" ["one", "other"] [] F_start_of := fun base => def_mk a_start_of (PySem.W.mg_of X G a_start_of.ns) sc_start_of rfl (fun _ _ _ _ _ _ us hl => match us, hl with | [_, _], _ => rfl) (fun q W hr tk hp => b_start_of B  q W hr tk hp)
  have hD_end_of_row : ∀ base : Heap, Def (tx K ct) P w K mg base 3 "end_of_row" ["word", "text"] [] F_end_of_row := fun base => def_mk a_end_of_row (PySem.W.mg_of X G a_end_of_row.ns) sc_end_of_row rfl (fun _ _ _ _ _ _ us hl => match us, hl with | [_, _], _ => rfl) (fun q W hr tk hp => b_end_of_row B (hD_start_of base) (hD_row_from base) q W hr tk hp)
  have hD_is_piece : ∀ base : Heap, Def (tx K ct) P w K mg base 5 "is_piece" ["many", "value"] [] F_is_piece := fun base => def_mk a_is_piece (PySem.W.mg_of X G a_is_piece.ns) sc_is_piece rfl (fun _ _ _ _ _ _ us hl => match us, hl with | [_, _], _ => rfl) (fun q W hr tk hp => b_is_piece B (hD_is_letters base) (hD_is_form_for base) q W hr tk hp)
  have hD_measure : ∀ base : Heap, Def (tx K ct) P w K mg base 2 "measure" ["pieces"] [] F_measure := fun base => def_mk a_measure (PySem.W.mg_of X G a_measure.ns) sc_measure rfl (fun _ _ _ _ _ _ us hl => match us, hl with | [_], _ => rfl) (fun q W hr tk hp => b_measure B (hD_is_open_form base) q W hr tk hp)
  have hD_check_pieces : ∀ base : Heap, Def (tx K ct) P w K mg base 6 "check_pieces" ["many", "pieces"] [] F_check_pieces := fun base => def_mk a_check_pieces (PySem.W.mg_of X G a_check_pieces.ns) sc_check_pieces rfl (fun _ _ _ _ _ _ us hl => match us, hl with | [_, _], _ => rfl) (fun q W hr tk hp => b_check_pieces B (hD_check_many base) (hD_is_piece base) (hD_measure base) q W hr tk hp)
  have hD_push_word : ∀ base : Heap, Def (tx K ct) P w K mg base 1 "push_word" ["stack", "word", "fixed"] [] F_push_word := fun base => def_mk a_push_word (PySem.W.mg_of X G a_push_word.ns) sc_push_word rfl (fun _ _ _ _ _ _ us hl => match us, hl with | [_, _, _], _ => rfl) (fun q W hr tk hp => b_push_word B  q W hr tk hp)
  have hD_push_power : ∀ base : Heap, Def (tx K ct) P w K mg base 4 "push_power" ["stack", "word", "form", "fixed"] [] F_push_power := fun base => def_mk a_push_power (PySem.W.mg_of X G a_push_power.ns) sc_push_power rfl (fun _ _ _ _ _ _ us hl => match us, hl with | [_, _, _, _], _ => rfl) (fun q W hr tk hp => b_push_power B (hD_end_of_row base) (hD_turned_word base) (hD_push_word base) (hD_form_sum base) q W hr tk hp)
  have hD_normal_pieces : ∀ base : Heap, Def (tx K ct) P w K mg base 5 "normal_pieces" ["many", "pieces"] [] F_normal_pieces := fun base => def_mk a_normal_pieces (PySem.W.mg_of X G a_normal_pieces.ns) sc_normal_pieces rfl (fun _ _ _ _ _ _ us hl => match us, hl with | [_, _], _ => rfl) (fun q W hr tk hp => b_normal_pieces B (hD_plain base) (hD_is_open_form base) (hD_root_of base) (hD_push_power base) (hD_form_times base) (hD_push_word base) q W hr tk hp)
  have hM_OpenText___init__ : ∀ base : Heap, DefM (tx K ct) P w K mg base 7 "OpenText" 30 ["self", "many", "pieces"] [] F_OpenText___init__ := fun base => defM_mk a_OpenText___init__ B.m_OpenText mk_OpenText kp_OpenText sc_OpenText___init__ rfl (fun _ _ _ _ _ _ us hl => match us, hl with | [_, _, _], _ => rfl) (fun q W hr tk hp => b_OpenText___init__ B (hD_check_pieces base) (hD_normal_pieces base) q W hr tk hp)
  have hE_OpenText___eq__ : ∀ base : Heap, TxEq (tx K ct) P w K mg base 1 30 F_OpenText___eq__ := fun base => defE_mk a_OpenText___eq__ nf_OpenText (B.txo.ow 30 (show 30 < nC by decide) rfl) sc_OpenText___eq__ rfl rfl (fun _ _ _ _ _ _ us hl => match us, hl with | [_, _], _ => rfl) (fun q W hr tk hp => b_OpenText___eq__ B  q W hr tk hp)
  have hD__law_hash : ∀ base : Heap, Def (tx K ct) P w K mg base 1 "_law_hash" ["_law_seed", "_law_index"] [] F__law_hash := fun base => def_mk a__law_hash (PySem.W.mg_of X G a__law_hash.ns) sc__law_hash rfl (fun _ _ _ _ _ _ us hl => match us, hl with | [_, _], _ => rfl) (fun q W hr tk hp => b__law_hash B  q W hr tk hp)
  have hD__law_generator : ∀ base : Heap, Def (tx K ct) P w K mg base 1 "_law_generator" ["_law_script", "_law_index"] [] F__law_generator := fun base => def_mk a__law_generator (PySem.W.mg_of X G a__law_generator.ns) sc__law_generator rfl (fun _ _ _ _ _ _ us hl => match us, hl with | [_, _], _ => rfl) (fun q W hr tk hp => b__law_generator B  q W hr tk hp)
  have hD__law_random : ∀ base : Heap, Def (tx K ct) P w K mg base 2 "_law_random" ["_law_generator_here", "_law_bound"] [] F__law_random := fun base => def_mk a__law_random (PySem.W.mg_of X G a__law_random.ns) sc__law_random rfl (fun _ _ _ _ _ _ us hl => match us, hl with | [_, _], _ => rfl) (fun q W hr tk hp => b__law_random B (hD__law_hash base) q W hr tk hp)
  have hD__law_first : ∀ base : Heap, Def (tx K ct) P w K mg base 1 "_law_first" ["_law_number", "_law_value_here"] [] F__law_first := fun base => def_mk a__law_first (PySem.W.mg_of X G a__law_first.ns) sc__law_first rfl (fun _ _ _ _ _ _ us hl => match us, hl with | [_, _], _ => rfl) (fun q W hr tk hp => b__law_first B  q W hr tk hp)
  have hD__law_second : ∀ base : Heap, Def (tx K ct) P w K mg base 1 "_law_second" ["_law_number", "_law_value_here"] [] F__law_second := fun base => def_mk a__law_second (PySem.W.mg_of X G a__law_second.ns) sc__law_second rfl (fun _ _ _ _ _ _ us hl => match us, hl with | [_, _], _ => rfl) (fun q W hr tk hp => b__law_second B  q W hr tk hp)
  have hD__law_third : ∀ base : Heap, Def (tx K ct) P w K mg base 1 "_law_third" ["_law_number", "_law_value_here"] [] F__law_third := fun base => def_mk a__law_third (PySem.W.mg_of X G a__law_third.ns) sc__law_third rfl (fun _ _ _ _ _ _ us hl => match us, hl with | [_, _], _ => rfl) (fun q W hr tk hp => b__law_third B  q W hr tk hp)
  have hD__law_fourth : ∀ base : Heap, Def (tx K ct) P w K mg base 1 "_law_fourth" ["_law_number", "_law_value_here"] [] F__law_fourth := fun base => def_mk a__law_fourth (PySem.W.mg_of X G a__law_fourth.ns) sc__law_fourth rfl (fun _ _ _ _ _ _ us hl => match us, hl with | [_, _], _ => rfl) (fun q W hr tk hp => b__law_fourth B  q W hr tk hp)
  have hD__law_kinds : ∀ base : Heap, Def (tx K ct) P w K mg base 1 "_law_kinds" ["_law_error"] [] F__law_kinds := fun base => def_mk a__law_kinds (PySem.W.mg_of X G a__law_kinds.ns) sc__law_kinds rfl (fun _ _ _ _ _ _ us hl => match us, hl with | [_], _ => rfl) (fun q W hr tk hp => b__law_kinds B  q W hr tk hp)
  have hD__law_empty : ∀ base : Heap, Def (tx K ct) P w K mg base 1 "_law_empty" [] [] F__law_empty := fun base => def_mk a__law_empty (PySem.W.mg_of X G a__law_empty.ns) sc__law_empty rfl (fun _ _ _ _ _ _ us hl => match us, hl with | [], _ => rfl) (fun q W hr tk hp => b__law_empty B  q W hr tk hp)
  have hD__law_named : ∀ base : Heap, Def (tx K ct) P w K mg base 1 "_law_named" ["_law_value_here"] [] F__law_named := fun base => def_mk a__law_named (PySem.W.mg_of X G a__law_named.ns) sc__law_named rfl (fun _ _ _ _ _ _ us hl => match us, hl with | [_], _ => rfl) (fun q W hr tk hp => b__law_named B  q W hr tk hp)
  have hD__law_value : ∀ base : Heap, Def (tx K ct) P w K mg base 9 "_law_value" ["_law_generator_here"] [] F__law_value := fun base => def_mk a__law_value (PySem.W.mg_of X G a__law_value.ns) sc__law_value rfl (fun _ _ _ _ _ _ us hl => match us, hl with | [_], _ => rfl) (fun q W hr tk hp => b__law_value B (hD__law_random base) (hM_OpenText___init__ base) q W hr tk hp)
  have hD__law_made : ∀ base : Heap, Def (tx K ct) P w K mg base 2 "_law_made" ["_law_number", "_law_value_here"] [] F__law_made := fun base => def_mk a__law_made (PySem.W.mg_of X G a__law_made.ns) sc__law_made rfl (fun _ _ _ _ _ _ us hl => match us, hl with | [_, _], _ => rfl) (fun q W hr tk hp => b__law_made B (hD__law_fourth base) (hD__law_third base) (hD__law_second base) (hD__law_first base) q W hr tk hp)
  have e := (PySem.W.mg_of X G a_law.ns).symm.trans hl
  cases e
  obtain ⟨fd, D⟩ := a_law.fn
  refine ⟨tx K ct, fd, rfl, fun s u => D.bindsA (ps := ["_law_script"]) (fun _ _ _ _ _ _ us hl => match us, hl with | [_], _ => rfl) s [u] rfl, fun base _ _ => ?_⟩
  exact fn_mk2 (T := tx K ct) D sc_law fun q W hr tk hp => b_law B (hD__law_generator base) (hD__law_value base) (hD__law_made base) (hD__law_kinds base) (hE_OpenText___eq__ base) (hD__law_named base) (hD__law_empty base) q W hr tk hp
end FL

set_option Elab.async false
set_option linter.all false
set_option maxRecDepth 100000
set_option maxHeartbeats 4000000
namespace FL
open PySem PySem.Spec PyProof.Rows L2
def ctF (C0 C1 C2 C3 C4 C5 C6 C7 C8 C9 C10 C11 C12 C13 C14 C15 C16 C17 C18 C19 C20 C21 C22 C23 C24 C25 C26 C27 C28 C29 C30 : Addr) : Nat → Addr
  | 0 => C0
  | 1 => C1
  | 2 => C2
  | 3 => C3
  | 4 => C4
  | 5 => C5
  | 6 => C6
  | 7 => C7
  | 8 => C8
  | 9 => C9
  | 10 => C10
  | 11 => C11
  | 12 => C12
  | 13 => C13
  | 14 => C14
  | 15 => C15
  | 16 => C16
  | 17 => C17
  | 18 => C18
  | 19 => C19
  | 20 => C20
  | 21 => C21
  | 22 => C22
  | 23 => C23
  | 24 => C24
  | 25 => C25
  | 26 => C26
  | 27 => C27
  | 28 => C28
  | 29 => C29
  | _ => C30
def koB (K : PySem.W.Frag) (ct : Nat → Addr) (n : Nat) : Bool := (List.range n).all fun c => (List.range n).all fun d => match PySem.W.kitOne K (.ref (ct c)) (.ref (ct d)) with | some b => b == subB c d | none => false
def ktB (K : PySem.W.Frag) (ct : Nat → Addr) (n : Nat) : Bool := knownT.all fun t => (List.range n).all fun c => match PySem.W.kitOne K (.type t) (.ref (ct c)) with | some b => !b | none => false
def veM (K : PySem.W.Frag) (ct : Nat → Addr) (n : Nat) : Bool := (List.range n).all fun c => match PySem.W.kitOne K (.ref (ct c)) (.type "ValueError") with | some b => b | none => false
theorem koB_at {K : PySem.W.Frag} {ct : Nat → Addr} {n c d : Nat} (h : koB K ct n = true) (hc : c < n) (hd : d < n) : PySem.W.kitOne K (.ref (ct c)) (.ref (ct d)) = some (subB c d) := by
  have q := List.all_eq_true.mp (List.all_eq_true.mp h c (List.mem_range.mpr hc)) d (List.mem_range.mpr hd)
  cases e : PySem.W.kitOne K (.ref (ct c)) (.ref (ct d)) with
  | none => rw [e] at q; cases q
  | some b => rw [e] at q; rw [show b = subB c d by simpa using q]
theorem ktB_at {K : PySem.W.Frag} {ct : Nat → Addr} {n c : Nat} {t : String} (h : ktB K ct n = true) (ht : t ∈ knownT) (hc : c < n) : PySem.W.kitOne K (.type t) (.ref (ct c)) = some false := by
  have q := List.all_eq_true.mp (List.all_eq_true.mp h t ht) c (List.mem_range.mpr hc)
  cases e : PySem.W.kitOne K (.type t) (.ref (ct c)) with
  | none => rw [e] at q; cases q
  | some b => rw [e] at q; rw [show b = false by simpa using q]
theorem veM_at {K : PySem.W.Frag} {ct : Nat → Addr} {n c : Nat} (h : veM K ct n = true) (hc : c < n) : PySem.W.kitOne K (.ref (ct c)) (.type "ValueError") = some true := by
  have q := List.all_eq_true.mp h c (List.mem_range.mpr hc)
  cases e : PySem.W.kitOne K (.ref (ct c)) (.type "ValueError") with
  | none => rw [e] at q; cases q
  | some b => rw [e] at q; rw [show b = true by simpa using q]
theorem ltC {c : Nat} (h : c < 31) : c = 0 ∨ c = 1 ∨ c = 2 ∨ c = 3 ∨ c = 4 ∨ c = 5 ∨ c = 6 ∨ c = 7 ∨ c = 8 ∨ c = 9 ∨ c = 10 ∨ c = 11 ∨ c = 12 ∨ c = 13 ∨ c = 14 ∨ c = 15 ∨ c = 16 ∨ c = 17 ∨ c = 18 ∨ c = 19 ∨ c = 20 ∨ c = 21 ∨ c = 22 ∨ c = 23 ∨ c = 24 ∨ c = 25 ∨ c = 26 ∨ c = 27 ∨ c = 28 ∨ c = 29 ∨ c = 30 := by omega
theorem ltE {c : Nat} (h : c < 30) : c = 0 ∨ c = 1 ∨ c = 2 ∨ c = 3 ∨ c = 4 ∨ c = 5 ∨ c = 6 ∨ c = 7 ∨ c = 8 ∨ c = 9 ∨ c = 10 ∨ c = 11 ∨ c = 12 ∨ c = 13 ∨ c = 14 ∨ c = 15 ∨ c = 16 ∨ c = 17 ∨ c = 18 ∨ c = 19 ∨ c = 20 ∨ c = 21 ∨ c = 22 ∨ c = 23 ∨ c = 24 ∨ c = 25 ∨ c = 26 ∨ c = 27 ∨ c = 28 ∨ c = 29 := by omega
theorem isO {c : Nat} (h : ownB c = true) : c = 30 := by
  unfold ownB at h
  simp at h
  omega
theorem tb_mk {P : Program} {K : PySem.W.Frag} {mg : Str → Option Value} {h : Heap} {C0 C1 C2 C3 C4 C5 C6 C7 C8 C9 C10 C11 C12 C13 C14 C15 C16 C17 C18 C19 C20 C21 C22 C23 C24 C25 C26 C27 C28 C29 C30 : Addr} {t_MOST_MEASURE t_MOST_PIECES t_MOST_PIECE_LETTERS t_MOST_UNKNOWNS t_LETTERS : Tok}
    {qual1 file1 : Str} {p11 p21 pd1 q1_1 q2_1 q3_1 q4_1 q5_1 q6_1 q7_1 q8_1 q9_1 qa_1 : Pos} {Td1 cda1 cc1 fI1 : Addr} {oc1 kV1 doc1 pm1 ct1 To1 ccl1 cl1 : Value} {od1 an1 Tt1 cdd1 cld1 : Option Addr} {osl1 Ts1 ccs1 csl1 : Array (Option Value)} {nT1 : Nat} {vs1 : Array Value} {tf1 : Tok}
    {qual2 file2 : Str} {p12 p22 pd2 q1_2 q2_2 q3_2 q4_2 q5_2 q6_2 q7_2 q8_2 q9_2 qa_2 : Pos} {Td2 cda2 cc2 fI2 : Addr} {oc2 kV2 doc2 pm2 ct2 To2 ccl2 cl2 : Value} {od2 an2 Tt2 cdd2 cld2 : Option Addr} {osl2 Ts2 ccs2 csl2 : Array (Option Value)} {nT2 : Nat} {vs2 : Array Value} {tf2 : Tok}
    {qual3 file3 : Str} {p13 p23 pd3 q1_3 q2_3 q3_3 q4_3 q5_3 q6_3 q7_3 q8_3 q9_3 qa_3 : Pos} {Td3 cda3 cc3 fI3 : Addr} {oc3 kV3 doc3 pm3 ct3 To3 ccl3 cl3 : Value} {od3 an3 Tt3 cdd3 cld3 : Option Addr} {osl3 Ts3 ccs3 csl3 : Array (Option Value)} {nT3 : Nat} {vs3 : Array Value} {tf3 : Tok}
    {qual4 file4 : Str} {p14 p24 pd4 q1_4 q2_4 q3_4 q4_4 q5_4 q6_4 q7_4 q8_4 q9_4 qa_4 : Pos} {Td4 cda4 cc4 fI4 : Addr} {oc4 kV4 doc4 pm4 ct4 To4 ccl4 cl4 : Value} {od4 an4 Tt4 cdd4 cld4 : Option Addr} {osl4 Ts4 ccs4 csl4 : Array (Option Value)} {nT4 : Nat} {vs4 : Array Value} {tf4 : Tok}
    {qual5 file5 : Str} {p15 p25 pd5 q1_5 q2_5 q3_5 q4_5 q5_5 q6_5 q7_5 q8_5 q9_5 qa_5 : Pos} {Td5 cda5 cc5 fI5 : Addr} {oc5 kV5 doc5 pm5 ct5 To5 ccl5 cl5 : Value} {od5 an5 Tt5 cdd5 cld5 : Option Addr} {osl5 Ts5 ccs5 csl5 : Array (Option Value)} {nT5 : Nat} {vs5 : Array Value} {tf5 : Tok}
    {qual6 file6 : Str} {p16 p26 pd6 q1_6 q2_6 q3_6 q4_6 q5_6 q6_6 q7_6 q8_6 q9_6 qa_6 : Pos} {Td6 cda6 cc6 fI6 : Addr} {oc6 kV6 doc6 pm6 ct6 To6 ccl6 cl6 : Value} {od6 an6 Tt6 cdd6 cld6 : Option Addr} {osl6 Ts6 ccs6 csl6 : Array (Option Value)} {nT6 : Nat} {vs6 : Array Value} {tf6 : Tok}
    {qual7 file7 : Str} {p17 p27 pd7 q1_7 q2_7 q3_7 q4_7 q5_7 q6_7 q7_7 q8_7 q9_7 qa_7 : Pos} {Td7 cda7 cc7 fI7 : Addr} {oc7 kV7 doc7 pm7 ct7 To7 ccl7 cl7 : Value} {od7 an7 Tt7 cdd7 cld7 : Option Addr} {osl7 Ts7 ccs7 csl7 : Array (Option Value)} {nT7 : Nat} {vs7 : Array Value} {tf7 : Tok}
    {qual8 file8 : Str} {p18 p28 pd8 q1_8 q2_8 q3_8 q4_8 q5_8 q6_8 q7_8 q8_8 q9_8 qa_8 : Pos} {Td8 cda8 cc8 fI8 : Addr} {oc8 kV8 doc8 pm8 ct8 To8 ccl8 cl8 : Value} {od8 an8 Tt8 cdd8 cld8 : Option Addr} {osl8 Ts8 ccs8 csl8 : Array (Option Value)} {nT8 : Nat} {vs8 : Array Value} {tf8 : Tok}
    {qual9 file9 : Str} {p19 p29 pd9 q1_9 q2_9 q3_9 q4_9 q5_9 q6_9 q7_9 q8_9 q9_9 qa_9 : Pos} {Td9 cda9 cc9 fI9 : Addr} {oc9 kV9 doc9 pm9 ct9 To9 ccl9 cl9 : Value} {od9 an9 Tt9 cdd9 cld9 : Option Addr} {osl9 Ts9 ccs9 csl9 : Array (Option Value)} {nT9 : Nat} {vs9 : Array Value} {tf9 : Tok}
    {qual10 file10 : Str} {p110 p210 pd10 q1_10 q2_10 q3_10 q4_10 q5_10 q6_10 q7_10 q8_10 q9_10 qa_10 : Pos} {Td10 cda10 cc10 fI10 : Addr} {oc10 kV10 doc10 pm10 ct10 To10 ccl10 cl10 : Value} {od10 an10 Tt10 cdd10 cld10 : Option Addr} {osl10 Ts10 ccs10 csl10 : Array (Option Value)} {nT10 : Nat} {vs10 : Array Value} {tf10 : Tok}
    {qual11 file11 : Str} {p111 p211 pd11 q1_11 q2_11 q3_11 q4_11 q5_11 q6_11 q7_11 q8_11 q9_11 qa_11 : Pos} {Td11 cda11 cc11 fI11 : Addr} {oc11 kV11 doc11 pm11 ct11 To11 ccl11 cl11 : Value} {od11 an11 Tt11 cdd11 cld11 : Option Addr} {osl11 Ts11 ccs11 csl11 : Array (Option Value)} {nT11 : Nat} {vs11 : Array Value} {tf11 : Tok}
    {qual12 file12 : Str} {p112 p212 pd12 q1_12 q2_12 q3_12 q4_12 q5_12 q6_12 q7_12 q8_12 q9_12 qa_12 : Pos} {Td12 cda12 cc12 fI12 : Addr} {oc12 kV12 doc12 pm12 ct12 To12 ccl12 cl12 : Value} {od12 an12 Tt12 cdd12 cld12 : Option Addr} {osl12 Ts12 ccs12 csl12 : Array (Option Value)} {nT12 : Nat} {vs12 : Array Value} {tf12 : Tok}
    {qual13 file13 : Str} {p113 p213 pd13 q1_13 q2_13 q3_13 q4_13 q5_13 q6_13 q7_13 q8_13 q9_13 qa_13 : Pos} {Td13 cda13 cc13 fI13 : Addr} {oc13 kV13 doc13 pm13 ct13 To13 ccl13 cl13 : Value} {od13 an13 Tt13 cdd13 cld13 : Option Addr} {osl13 Ts13 ccs13 csl13 : Array (Option Value)} {nT13 : Nat} {vs13 : Array Value} {tf13 : Tok}
    {qual14 file14 : Str} {p114 p214 pd14 q1_14 q2_14 q3_14 q4_14 q5_14 q6_14 q7_14 q8_14 q9_14 qa_14 : Pos} {Td14 cda14 cc14 fI14 : Addr} {oc14 kV14 doc14 pm14 ct14 To14 ccl14 cl14 : Value} {od14 an14 Tt14 cdd14 cld14 : Option Addr} {osl14 Ts14 ccs14 csl14 : Array (Option Value)} {nT14 : Nat} {vs14 : Array Value} {tf14 : Tok}
    {qual15 file15 : Str} {p115 p215 pd15 q1_15 q2_15 q3_15 q4_15 q5_15 q6_15 q7_15 q8_15 q9_15 qa_15 : Pos} {Td15 cda15 cc15 fI15 : Addr} {oc15 kV15 doc15 pm15 ct15 To15 ccl15 cl15 : Value} {od15 an15 Tt15 cdd15 cld15 : Option Addr} {osl15 Ts15 ccs15 csl15 : Array (Option Value)} {nT15 : Nat} {vs15 : Array Value} {tf15 : Tok}
    {qual16 file16 : Str} {p116 p216 pd16 q1_16 q2_16 q3_16 q4_16 q5_16 q6_16 q7_16 q8_16 q9_16 qa_16 : Pos} {Td16 cda16 cc16 fI16 : Addr} {oc16 kV16 doc16 pm16 ct16 To16 ccl16 cl16 : Value} {od16 an16 Tt16 cdd16 cld16 : Option Addr} {osl16 Ts16 ccs16 csl16 : Array (Option Value)} {nT16 : Nat} {vs16 : Array Value} {tf16 : Tok}
    {qual17 file17 : Str} {p117 p217 pd17 q1_17 q2_17 q3_17 q4_17 q5_17 q6_17 q7_17 q8_17 q9_17 qa_17 : Pos} {Td17 cda17 cc17 fI17 : Addr} {oc17 kV17 doc17 pm17 ct17 To17 ccl17 cl17 : Value} {od17 an17 Tt17 cdd17 cld17 : Option Addr} {osl17 Ts17 ccs17 csl17 : Array (Option Value)} {nT17 : Nat} {vs17 : Array Value} {tf17 : Tok}
    {qual18 file18 : Str} {p118 p218 pd18 q1_18 q2_18 q3_18 q4_18 q5_18 q6_18 q7_18 q8_18 q9_18 qa_18 : Pos} {Td18 cda18 cc18 fI18 : Addr} {oc18 kV18 doc18 pm18 ct18 To18 ccl18 cl18 : Value} {od18 an18 Tt18 cdd18 cld18 : Option Addr} {osl18 Ts18 ccs18 csl18 : Array (Option Value)} {nT18 : Nat} {vs18 : Array Value} {tf18 : Tok}
    {qual19 file19 : Str} {p119 p219 pd19 q1_19 q2_19 q3_19 q4_19 q5_19 q6_19 q7_19 q8_19 q9_19 qa_19 : Pos} {Td19 cda19 cc19 fI19 : Addr} {oc19 kV19 doc19 pm19 ct19 To19 ccl19 cl19 : Value} {od19 an19 Tt19 cdd19 cld19 : Option Addr} {osl19 Ts19 ccs19 csl19 : Array (Option Value)} {nT19 : Nat} {vs19 : Array Value} {tf19 : Tok}
    {qual20 file20 : Str} {p120 p220 pd20 q1_20 q2_20 q3_20 q4_20 q5_20 q6_20 q7_20 q8_20 q9_20 qa_20 : Pos} {Td20 cda20 cc20 fI20 : Addr} {oc20 kV20 doc20 pm20 ct20 To20 ccl20 cl20 : Value} {od20 an20 Tt20 cdd20 cld20 : Option Addr} {osl20 Ts20 ccs20 csl20 : Array (Option Value)} {nT20 : Nat} {vs20 : Array Value} {tf20 : Tok}
    {qual21 file21 : Str} {p121 p221 pd21 q1_21 q2_21 q3_21 q4_21 q5_21 q6_21 q7_21 q8_21 q9_21 qa_21 : Pos} {Td21 cda21 cc21 fI21 : Addr} {oc21 kV21 doc21 pm21 ct21 To21 ccl21 cl21 : Value} {od21 an21 Tt21 cdd21 cld21 : Option Addr} {osl21 Ts21 ccs21 csl21 : Array (Option Value)} {nT21 : Nat} {vs21 : Array Value} {tf21 : Tok}
    {qual22 file22 : Str} {p122 p222 pd22 q1_22 q2_22 q3_22 q4_22 q5_22 q6_22 q7_22 q8_22 q9_22 qa_22 : Pos} {Td22 cda22 cc22 fI22 : Addr} {oc22 kV22 doc22 pm22 ct22 To22 ccl22 cl22 : Value} {od22 an22 Tt22 cdd22 cld22 : Option Addr} {osl22 Ts22 ccs22 csl22 : Array (Option Value)} {nT22 : Nat} {vs22 : Array Value} {tf22 : Tok}
    {qual23 file23 : Str} {p123 p223 pd23 q1_23 q2_23 q3_23 q4_23 q5_23 q6_23 q7_23 q8_23 q9_23 qa_23 : Pos} {Td23 cda23 cc23 fI23 : Addr} {oc23 kV23 doc23 pm23 ct23 To23 ccl23 cl23 : Value} {od23 an23 Tt23 cdd23 cld23 : Option Addr} {osl23 Ts23 ccs23 csl23 : Array (Option Value)} {nT23 : Nat} {vs23 : Array Value} {tf23 : Tok}
    {qual24 file24 : Str} {p124 p224 pd24 q1_24 q2_24 q3_24 q4_24 q5_24 q6_24 q7_24 q8_24 q9_24 qa_24 : Pos} {Td24 cda24 cc24 fI24 : Addr} {oc24 kV24 doc24 pm24 ct24 To24 ccl24 cl24 : Value} {od24 an24 Tt24 cdd24 cld24 : Option Addr} {osl24 Ts24 ccs24 csl24 : Array (Option Value)} {nT24 : Nat} {vs24 : Array Value} {tf24 : Tok}
    {qual25 file25 : Str} {p125 p225 pd25 q1_25 q2_25 q3_25 q4_25 q5_25 q6_25 q7_25 q8_25 q9_25 qa_25 : Pos} {Td25 cda25 cc25 fI25 : Addr} {oc25 kV25 doc25 pm25 ct25 To25 ccl25 cl25 : Value} {od25 an25 Tt25 cdd25 cld25 : Option Addr} {osl25 Ts25 ccs25 csl25 : Array (Option Value)} {nT25 : Nat} {vs25 : Array Value} {tf25 : Tok}
    {qual26 file26 : Str} {p126 p226 pd26 q1_26 q2_26 q3_26 q4_26 q5_26 q6_26 q7_26 q8_26 q9_26 qa_26 : Pos} {Td26 cda26 cc26 fI26 : Addr} {oc26 kV26 doc26 pm26 ct26 To26 ccl26 cl26 : Value} {od26 an26 Tt26 cdd26 cld26 : Option Addr} {osl26 Ts26 ccs26 csl26 : Array (Option Value)} {nT26 : Nat} {vs26 : Array Value} {tf26 : Tok}
    {qual27 file27 : Str} {p127 p227 pd27 q1_27 q2_27 q3_27 q4_27 q5_27 q6_27 q7_27 q8_27 q9_27 qa_27 : Pos} {Td27 cda27 cc27 fI27 : Addr} {oc27 kV27 doc27 pm27 ct27 To27 ccl27 cl27 : Value} {od27 an27 Tt27 cdd27 cld27 : Option Addr} {osl27 Ts27 ccs27 csl27 : Array (Option Value)} {nT27 : Nat} {vs27 : Array Value} {tf27 : Tok}
    {nm1 qq1 : Str} {N1 : Addr} {bs1 bm1 sub1 : List Value} {sn1 : List Str} {ab1 : Bool} {col1 : Option Bool} {dd1 : Option Addr} {k0_1 k1_1 k2_1 k3_1 k5_1 : Option Value}
    {nm2 qq2 : Str} {N2 : Addr} {bs2 bm2 sub2 : List Value} {sn2 : List Str} {ab2 : Bool} {col2 : Option Bool} {dd2 : Option Addr} {k0_2 k1_2 k2_2 k3_2 k5_2 : Option Value}
    {nm3 qq3 : Str} {N3 : Addr} {bs3 bm3 sub3 : List Value} {sn3 : List Str} {ab3 : Bool} {col3 : Option Bool} {dd3 : Option Addr} {k0_3 k1_3 k2_3 k3_3 k5_3 : Option Value}
    {nm4 qq4 : Str} {N4 : Addr} {bs4 bm4 sub4 : List Value} {sn4 : List Str} {ab4 : Bool} {col4 : Option Bool} {dd4 : Option Addr} {k0_4 k1_4 k2_4 k3_4 k5_4 : Option Value}
    {nm5 qq5 : Str} {N5 : Addr} {bs5 bm5 sub5 : List Value} {sn5 : List Str} {ab5 : Bool} {col5 : Option Bool} {dd5 : Option Addr} {k0_5 k1_5 k2_5 k3_5 k5_5 : Option Value}
    {nm6 qq6 : Str} {N6 : Addr} {bs6 bm6 sub6 : List Value} {sn6 : List Str} {ab6 : Bool} {col6 : Option Bool} {dd6 : Option Addr} {k0_6 k1_6 k2_6 k3_6 k5_6 : Option Value}
    {nm7 qq7 : Str} {N7 : Addr} {bs7 bm7 sub7 : List Value} {sn7 : List Str} {ab7 : Bool} {col7 : Option Bool} {dd7 : Option Addr} {k0_7 k1_7 k2_7 k3_7 k5_7 : Option Value}
    {nm8 qq8 : Str} {N8 : Addr} {bs8 bm8 sub8 : List Value} {sn8 : List Str} {ab8 : Bool} {col8 : Option Bool} {dd8 : Option Addr} {k0_8 k1_8 k2_8 k3_8 k5_8 : Option Value}
    {nm9 qq9 : Str} {N9 : Addr} {bs9 bm9 sub9 : List Value} {sn9 : List Str} {ab9 : Bool} {col9 : Option Bool} {dd9 : Option Addr} {k0_9 k1_9 k2_9 k3_9 k5_9 : Option Value}
    {nm10 qq10 : Str} {N10 : Addr} {bs10 bm10 sub10 : List Value} {sn10 : List Str} {ab10 : Bool} {col10 : Option Bool} {dd10 : Option Addr} {k0_10 k1_10 k2_10 k3_10 k5_10 : Option Value}
    {nm11 qq11 : Str} {N11 : Addr} {bs11 bm11 sub11 : List Value} {sn11 : List Str} {ab11 : Bool} {col11 : Option Bool} {dd11 : Option Addr} {k0_11 k1_11 k2_11 k3_11 k5_11 : Option Value}
    {nm12 qq12 : Str} {N12 : Addr} {bs12 bm12 sub12 : List Value} {sn12 : List Str} {ab12 : Bool} {col12 : Option Bool} {dd12 : Option Addr} {k0_12 k1_12 k2_12 k3_12 k5_12 : Option Value}
    {nm13 qq13 : Str} {N13 : Addr} {bs13 bm13 sub13 : List Value} {sn13 : List Str} {ab13 : Bool} {col13 : Option Bool} {dd13 : Option Addr} {k0_13 k1_13 k2_13 k3_13 k5_13 : Option Value}
    {nm14 qq14 : Str} {N14 : Addr} {bs14 bm14 sub14 : List Value} {sn14 : List Str} {ab14 : Bool} {col14 : Option Bool} {dd14 : Option Addr} {k0_14 k1_14 k2_14 k3_14 k5_14 : Option Value}
    {nm15 qq15 : Str} {N15 : Addr} {bs15 bm15 sub15 : List Value} {sn15 : List Str} {ab15 : Bool} {col15 : Option Bool} {dd15 : Option Addr} {k0_15 k1_15 k2_15 k3_15 k5_15 : Option Value}
    {nm16 qq16 : Str} {N16 : Addr} {bs16 bm16 sub16 : List Value} {sn16 : List Str} {ab16 : Bool} {col16 : Option Bool} {dd16 : Option Addr} {k0_16 k1_16 k2_16 k3_16 k5_16 : Option Value}
    {nm17 qq17 : Str} {N17 : Addr} {bs17 bm17 sub17 : List Value} {sn17 : List Str} {ab17 : Bool} {col17 : Option Bool} {dd17 : Option Addr} {k0_17 k1_17 k2_17 k3_17 k5_17 : Option Value}
    {nm18 qq18 : Str} {N18 : Addr} {bs18 bm18 sub18 : List Value} {sn18 : List Str} {ab18 : Bool} {col18 : Option Bool} {dd18 : Option Addr} {k0_18 k1_18 k2_18 k3_18 k5_18 : Option Value}
    {nm19 qq19 : Str} {N19 : Addr} {bs19 bm19 sub19 : List Value} {sn19 : List Str} {ab19 : Bool} {col19 : Option Bool} {dd19 : Option Addr} {k0_19 k1_19 k2_19 k3_19 k5_19 : Option Value}
    {nm20 qq20 : Str} {N20 : Addr} {bs20 bm20 sub20 : List Value} {sn20 : List Str} {ab20 : Bool} {col20 : Option Bool} {dd20 : Option Addr} {k0_20 k1_20 k2_20 k3_20 k5_20 : Option Value}
    {nm21 qq21 : Str} {N21 : Addr} {bs21 bm21 sub21 : List Value} {sn21 : List Str} {ab21 : Bool} {col21 : Option Bool} {dd21 : Option Addr} {k0_21 k1_21 k2_21 k3_21 k5_21 : Option Value}
    {nm22 qq22 : Str} {N22 : Addr} {bs22 bm22 sub22 : List Value} {sn22 : List Str} {ab22 : Bool} {col22 : Option Bool} {dd22 : Option Addr} {k0_22 k1_22 k2_22 k3_22 k5_22 : Option Value}
    {nm23 qq23 : Str} {N23 : Addr} {bs23 bm23 sub23 : List Value} {sn23 : List Str} {ab23 : Bool} {col23 : Option Bool} {dd23 : Option Addr} {k0_23 k1_23 k2_23 k3_23 k5_23 : Option Value}
    {nm24 qq24 : Str} {N24 : Addr} {bs24 bm24 sub24 : List Value} {sn24 : List Str} {ab24 : Bool} {col24 : Option Bool} {dd24 : Option Addr} {k0_24 k1_24 k2_24 k3_24 k5_24 : Option Value}
    {nm25 qq25 : Str} {N25 : Addr} {bs25 bm25 sub25 : List Value} {sn25 : List Str} {ab25 : Bool} {col25 : Option Bool} {dd25 : Option Addr} {k0_25 k1_25 k2_25 k3_25 k5_25 : Option Value}
    {nm26 qq26 : Str} {N26 : Addr} {bs26 bm26 sub26 : List Value} {sn26 : List Str} {ab26 : Bool} {col26 : Option Bool} {dd26 : Option Addr} {k0_26 k1_26 k2_26 k3_26 k5_26 : Option Value}
    {nm27 qq27 : Str} {N27 : Addr} {bs27 bm27 sub27 : List Value} {sn27 : List Str} {ab27 : Bool} {col27 : Option Bool} {dd27 : Option Addr} {k0_27 k1_27 k2_27 k3_27 k5_27 : Option Value}
    (X : K.In h) (G : h.Ns mainGlobals mg)
    (aC0 : PySem.W.nsIn K mainGlobals "LoopError" = some (some (.ref C0)))
    (aC1 : PySem.W.nsIn K mainGlobals "InvalidNumber" = some (some (.ref C1)))
    (aC2 : PySem.W.nsIn K mainGlobals "InvalidWord" = some (some (.ref C2)))
    (aC3 : PySem.W.nsIn K mainGlobals "InvalidForm" = some (some (.ref C3)))
    (aC4 : PySem.W.nsIn K mainGlobals "InvalidPoint" = some (some (.ref C4)))
    (aC5 : PySem.W.nsIn K mainGlobals "InvalidPieces" = some (some (.ref C5)))
    (aC6 : PySem.W.nsIn K mainGlobals "InvalidList" = some (some (.ref C6)))
    (aC7 : PySem.W.nsIn K mainGlobals "InvalidLines" = some (some (.ref C7)))
    (aC8 : PySem.W.nsIn K mainGlobals "InvalidPlace" = some (some (.ref C8)))
    (aC9 : PySem.W.nsIn K mainGlobals "InvalidAmount" = some (some (.ref C9)))
    (aC10 : PySem.W.nsIn K mainGlobals "InvalidStep" = some (some (.ref C10)))
    (aC11 : PySem.W.nsIn K mainGlobals "InvalidWay" = some (some (.ref C11)))
    (aC12 : PySem.W.nsIn K mainGlobals "InvalidDeed" = some (some (.ref C12)))
    (aC13 : PySem.W.nsIn K mainGlobals "InvalidFlag" = some (some (.ref C13)))
    (aC14 : PySem.W.nsIn K mainGlobals "InvalidText" = some (some (.ref C14)))
    (aC15 : PySem.W.nsIn K mainGlobals "InvalidGrid" = some (some (.ref C15)))
    (aC16 : PySem.W.nsIn K mainGlobals "InvalidSet" = some (some (.ref C16)))
    (aC17 : PySem.W.nsIn K mainGlobals "InvalidTable" = some (some (.ref C17)))
    (aC18 : PySem.W.nsIn K mainGlobals "InvalidAutomaton" = some (some (.ref C18)))
    (aC19 : PySem.W.nsIn K mainGlobals "InvalidMaker" = some (some (.ref C19)))
    (aC20 : PySem.W.nsIn K mainGlobals "InvalidProgram" = some (some (.ref C20)))
    (aC21 : PySem.W.nsIn K mainGlobals "InvalidWorkshop" = some (some (.ref C21)))
    (aC22 : PySem.W.nsIn K mainGlobals "InvalidPiece" = some (some (.ref C22)))
    (aC23 : PySem.W.nsIn K mainGlobals "Unlike" = some (some (.ref C23)))
    (aC24 : PySem.W.nsIn K mainGlobals "TooLong" = some (some (.ref C24)))
    (aC25 : PySem.W.nsIn K mainGlobals "TooMany" = some (some (.ref C25)))
    (aC26 : PySem.W.nsIn K mainGlobals "UnknownPart" = some (some (.ref C26)))
    (aC27 : PySem.W.nsIn K mainGlobals "OpenInOpen" = some (some (.ref C27)))
    (aC28 : PySem.W.nsIn K mainGlobals "NothingToUndo" = some (some (.ref C28)))
    (aC29 : PySem.W.nsIn K mainGlobals "NothingToRedo" = some (some (.ref C29)))
    (aC30 : PySem.W.nsIn K mainGlobals "OpenText" = some (some (.ref C30)))
    (cn_MOST_MEASURE : PySem.W.nsIn K mainGlobals "MOST_MEASURE" = some (some (.int 2000 t_MOST_MEASURE)))
    (cn_MOST_PIECES : PySem.W.nsIn K mainGlobals "MOST_PIECES" = some (some (.int 5000 t_MOST_PIECES)))
    (cn_MOST_PIECE_LETTERS : PySem.W.nsIn K mainGlobals "MOST_PIECE_LETTERS" = some (some (.int 2000 t_MOST_PIECE_LETTERS)))
    (cn_MOST_UNKNOWNS : PySem.W.nsIn K mainGlobals "MOST_UNKNOWNS" = some (some (.int 3 t_MOST_UNKNOWNS)))
    (cn_LETTERS : PySem.W.nsIn K mainGlobals "LETTERS" = some (some (.str "abcdefghijklmnopqrstuvwxyz" t_LETTERS)))
    (g_ValueError : PySem.W.nsIn K mainGlobals "ValueError" = some none)
    (g_bool : PySem.W.nsIn K mainGlobals "bool" = some none)
    (g_int : PySem.W.nsIn K mainGlobals "int" = some none)
    (g_isinstance : PySem.W.nsIn K mainGlobals "isinstance" = some none)
    (g_len : PySem.W.nsIn K mainGlobals "len" = some none)
    (g_list : PySem.W.nsIn K mainGlobals "list" = some none)
    (g_max : PySem.W.nsIn K mainGlobals "max" = some none)
    (g_range : PySem.W.nsIn K mainGlobals "range" = some none)
    (g_str : PySem.W.nsIn K mainGlobals "str" = some none)
    (g_sum : PySem.W.nsIn K mainGlobals "sum" = some none)
    (g_super : PySem.W.nsIn K mainGlobals "super" = some none)
    (g_tuple : PySem.W.nsIn K mainGlobals "tuple" = some none)
    (g_zip : PySem.W.nsIn K mainGlobals "zip" = some none)
    (kom : koB K (ctF C0 C1 C2 C3 C4 C5 C6 C7 C8 C9 C10 C11 C12 C13 C14 C15 C16 C17 C18 C19 C20 C21 C22 C23 C24 C25 C26 C27 C28 C29 C30) 31 = true)
    (ktm : ktB K (ctF C0 C1 C2 C3 C4 C5 C6 C7 C8 C9 C10 C11 C12 C13 C14 C15 C16 C17 C18 C19 C20 C21 C22 C23 C24 C25 C26 C27 C28 C29 C30) 31 = true)
    (vem : veM K (ctF C0 C1 C2 C3 C4 C5 C6 C7 C8 C9 C10 C11 C12 C13 C14 C15 C16 C17 C18 C19 C20 C21 C22 C23 C24 C25 C26 C27 C28 C29 C30) 30 = true)
    (npl27 : PySem.W.findIn K (.ref C27) "place" = some none)
    (xpl0 : PySem.W.excIn K C0 veB "ValueError.__new__" = true)
    (kpl0 : PySem.W.keepIn K (.ref C0) = true)
    (xpl28 : PySem.W.excIn K C28 veB "ValueError.__new__" = true)
    (kpl28 : PySem.W.keepIn K (.ref C28) = true)
    (xpl29 : PySem.W.excIn K C29 veB "ValueError.__new__" = true)
    (kpl29 : PySem.W.keepIn K (.ref C29) = true)
    (xhn : PySem.W.specialIn K (.builtin "object.__class__") "__get__" = some (some (.builtin "getset_descriptor.__get__")))
    (xht : PySem.W.takesIn K (.builtin "object.__class__") = some true)
    (xga0 : PySem.W.findIn K (.ref C0) "__getattribute__" = some (some (.builtin "BaseException.__getattribute__")))
    (xgg0 : PySem.W.findIn K (.ref C0) "__getattr__" = some none)
    (xex0 : PySem.W.subIn K (.ref C0) (.type "BaseException") = some true)
    (xhd0 : PySem.W.hasDictIn K C0 = true)
    (xcl0 : (PySem.W.clsIn K C0).isSome = true)
    (xha0 : PySem.W.findIn K (.ref C0) "__class__" = some (some (.builtin "object.__class__")))
    (xhm0 : PySem.W.mroIn K C0 (.type "object") = some true)
    (xnv0 : PySem.W.findIn K (.ref C0) "value" = some none)
    (xga1 : PySem.W.findIn K (.ref C1) "__getattribute__" = some (some (.builtin "BaseException.__getattribute__")))
    (xgg1 : PySem.W.findIn K (.ref C1) "__getattr__" = some none)
    (xex1 : PySem.W.subIn K (.ref C1) (.type "BaseException") = some true)
    (xhd1 : PySem.W.hasDictIn K C1 = true)
    (xcl1 : (PySem.W.clsIn K C1).isSome = true)
    (xha1 : PySem.W.findIn K (.ref C1) "__class__" = some (some (.builtin "object.__class__")))
    (xhm1 : PySem.W.mroIn K C1 (.type "object") = some true)
    (xnv1 : PySem.W.findIn K (.ref C1) "value" = some none)
    (xga2 : PySem.W.findIn K (.ref C2) "__getattribute__" = some (some (.builtin "BaseException.__getattribute__")))
    (xgg2 : PySem.W.findIn K (.ref C2) "__getattr__" = some none)
    (xex2 : PySem.W.subIn K (.ref C2) (.type "BaseException") = some true)
    (xhd2 : PySem.W.hasDictIn K C2 = true)
    (xcl2 : (PySem.W.clsIn K C2).isSome = true)
    (xha2 : PySem.W.findIn K (.ref C2) "__class__" = some (some (.builtin "object.__class__")))
    (xhm2 : PySem.W.mroIn K C2 (.type "object") = some true)
    (xnv2 : PySem.W.findIn K (.ref C2) "value" = some none)
    (xga3 : PySem.W.findIn K (.ref C3) "__getattribute__" = some (some (.builtin "BaseException.__getattribute__")))
    (xgg3 : PySem.W.findIn K (.ref C3) "__getattr__" = some none)
    (xex3 : PySem.W.subIn K (.ref C3) (.type "BaseException") = some true)
    (xhd3 : PySem.W.hasDictIn K C3 = true)
    (xcl3 : (PySem.W.clsIn K C3).isSome = true)
    (xha3 : PySem.W.findIn K (.ref C3) "__class__" = some (some (.builtin "object.__class__")))
    (xhm3 : PySem.W.mroIn K C3 (.type "object") = some true)
    (xnv3 : PySem.W.findIn K (.ref C3) "value" = some none)
    (xga4 : PySem.W.findIn K (.ref C4) "__getattribute__" = some (some (.builtin "BaseException.__getattribute__")))
    (xgg4 : PySem.W.findIn K (.ref C4) "__getattr__" = some none)
    (xex4 : PySem.W.subIn K (.ref C4) (.type "BaseException") = some true)
    (xhd4 : PySem.W.hasDictIn K C4 = true)
    (xcl4 : (PySem.W.clsIn K C4).isSome = true)
    (xha4 : PySem.W.findIn K (.ref C4) "__class__" = some (some (.builtin "object.__class__")))
    (xhm4 : PySem.W.mroIn K C4 (.type "object") = some true)
    (xnv4 : PySem.W.findIn K (.ref C4) "value" = some none)
    (xga5 : PySem.W.findIn K (.ref C5) "__getattribute__" = some (some (.builtin "BaseException.__getattribute__")))
    (xgg5 : PySem.W.findIn K (.ref C5) "__getattr__" = some none)
    (xex5 : PySem.W.subIn K (.ref C5) (.type "BaseException") = some true)
    (xhd5 : PySem.W.hasDictIn K C5 = true)
    (xcl5 : (PySem.W.clsIn K C5).isSome = true)
    (xha5 : PySem.W.findIn K (.ref C5) "__class__" = some (some (.builtin "object.__class__")))
    (xhm5 : PySem.W.mroIn K C5 (.type "object") = some true)
    (xnv5 : PySem.W.findIn K (.ref C5) "value" = some none)
    (xga6 : PySem.W.findIn K (.ref C6) "__getattribute__" = some (some (.builtin "BaseException.__getattribute__")))
    (xgg6 : PySem.W.findIn K (.ref C6) "__getattr__" = some none)
    (xex6 : PySem.W.subIn K (.ref C6) (.type "BaseException") = some true)
    (xhd6 : PySem.W.hasDictIn K C6 = true)
    (xcl6 : (PySem.W.clsIn K C6).isSome = true)
    (xha6 : PySem.W.findIn K (.ref C6) "__class__" = some (some (.builtin "object.__class__")))
    (xhm6 : PySem.W.mroIn K C6 (.type "object") = some true)
    (xnv6 : PySem.W.findIn K (.ref C6) "value" = some none)
    (xga7 : PySem.W.findIn K (.ref C7) "__getattribute__" = some (some (.builtin "BaseException.__getattribute__")))
    (xgg7 : PySem.W.findIn K (.ref C7) "__getattr__" = some none)
    (xex7 : PySem.W.subIn K (.ref C7) (.type "BaseException") = some true)
    (xhd7 : PySem.W.hasDictIn K C7 = true)
    (xcl7 : (PySem.W.clsIn K C7).isSome = true)
    (xha7 : PySem.W.findIn K (.ref C7) "__class__" = some (some (.builtin "object.__class__")))
    (xhm7 : PySem.W.mroIn K C7 (.type "object") = some true)
    (xnv7 : PySem.W.findIn K (.ref C7) "value" = some none)
    (xga8 : PySem.W.findIn K (.ref C8) "__getattribute__" = some (some (.builtin "BaseException.__getattribute__")))
    (xgg8 : PySem.W.findIn K (.ref C8) "__getattr__" = some none)
    (xex8 : PySem.W.subIn K (.ref C8) (.type "BaseException") = some true)
    (xhd8 : PySem.W.hasDictIn K C8 = true)
    (xcl8 : (PySem.W.clsIn K C8).isSome = true)
    (xha8 : PySem.W.findIn K (.ref C8) "__class__" = some (some (.builtin "object.__class__")))
    (xhm8 : PySem.W.mroIn K C8 (.type "object") = some true)
    (xnv8 : PySem.W.findIn K (.ref C8) "value" = some none)
    (xga9 : PySem.W.findIn K (.ref C9) "__getattribute__" = some (some (.builtin "BaseException.__getattribute__")))
    (xgg9 : PySem.W.findIn K (.ref C9) "__getattr__" = some none)
    (xex9 : PySem.W.subIn K (.ref C9) (.type "BaseException") = some true)
    (xhd9 : PySem.W.hasDictIn K C9 = true)
    (xcl9 : (PySem.W.clsIn K C9).isSome = true)
    (xha9 : PySem.W.findIn K (.ref C9) "__class__" = some (some (.builtin "object.__class__")))
    (xhm9 : PySem.W.mroIn K C9 (.type "object") = some true)
    (xnv9 : PySem.W.findIn K (.ref C9) "value" = some none)
    (xga10 : PySem.W.findIn K (.ref C10) "__getattribute__" = some (some (.builtin "BaseException.__getattribute__")))
    (xgg10 : PySem.W.findIn K (.ref C10) "__getattr__" = some none)
    (xex10 : PySem.W.subIn K (.ref C10) (.type "BaseException") = some true)
    (xhd10 : PySem.W.hasDictIn K C10 = true)
    (xcl10 : (PySem.W.clsIn K C10).isSome = true)
    (xha10 : PySem.W.findIn K (.ref C10) "__class__" = some (some (.builtin "object.__class__")))
    (xhm10 : PySem.W.mroIn K C10 (.type "object") = some true)
    (xnv10 : PySem.W.findIn K (.ref C10) "value" = some none)
    (xga11 : PySem.W.findIn K (.ref C11) "__getattribute__" = some (some (.builtin "BaseException.__getattribute__")))
    (xgg11 : PySem.W.findIn K (.ref C11) "__getattr__" = some none)
    (xex11 : PySem.W.subIn K (.ref C11) (.type "BaseException") = some true)
    (xhd11 : PySem.W.hasDictIn K C11 = true)
    (xcl11 : (PySem.W.clsIn K C11).isSome = true)
    (xha11 : PySem.W.findIn K (.ref C11) "__class__" = some (some (.builtin "object.__class__")))
    (xhm11 : PySem.W.mroIn K C11 (.type "object") = some true)
    (xnv11 : PySem.W.findIn K (.ref C11) "value" = some none)
    (xga12 : PySem.W.findIn K (.ref C12) "__getattribute__" = some (some (.builtin "BaseException.__getattribute__")))
    (xgg12 : PySem.W.findIn K (.ref C12) "__getattr__" = some none)
    (xex12 : PySem.W.subIn K (.ref C12) (.type "BaseException") = some true)
    (xhd12 : PySem.W.hasDictIn K C12 = true)
    (xcl12 : (PySem.W.clsIn K C12).isSome = true)
    (xha12 : PySem.W.findIn K (.ref C12) "__class__" = some (some (.builtin "object.__class__")))
    (xhm12 : PySem.W.mroIn K C12 (.type "object") = some true)
    (xnv12 : PySem.W.findIn K (.ref C12) "value" = some none)
    (xga13 : PySem.W.findIn K (.ref C13) "__getattribute__" = some (some (.builtin "BaseException.__getattribute__")))
    (xgg13 : PySem.W.findIn K (.ref C13) "__getattr__" = some none)
    (xex13 : PySem.W.subIn K (.ref C13) (.type "BaseException") = some true)
    (xhd13 : PySem.W.hasDictIn K C13 = true)
    (xcl13 : (PySem.W.clsIn K C13).isSome = true)
    (xha13 : PySem.W.findIn K (.ref C13) "__class__" = some (some (.builtin "object.__class__")))
    (xhm13 : PySem.W.mroIn K C13 (.type "object") = some true)
    (xnv13 : PySem.W.findIn K (.ref C13) "value" = some none)
    (xga14 : PySem.W.findIn K (.ref C14) "__getattribute__" = some (some (.builtin "BaseException.__getattribute__")))
    (xgg14 : PySem.W.findIn K (.ref C14) "__getattr__" = some none)
    (xex14 : PySem.W.subIn K (.ref C14) (.type "BaseException") = some true)
    (xhd14 : PySem.W.hasDictIn K C14 = true)
    (xcl14 : (PySem.W.clsIn K C14).isSome = true)
    (xha14 : PySem.W.findIn K (.ref C14) "__class__" = some (some (.builtin "object.__class__")))
    (xhm14 : PySem.W.mroIn K C14 (.type "object") = some true)
    (xnv14 : PySem.W.findIn K (.ref C14) "value" = some none)
    (xga15 : PySem.W.findIn K (.ref C15) "__getattribute__" = some (some (.builtin "BaseException.__getattribute__")))
    (xgg15 : PySem.W.findIn K (.ref C15) "__getattr__" = some none)
    (xex15 : PySem.W.subIn K (.ref C15) (.type "BaseException") = some true)
    (xhd15 : PySem.W.hasDictIn K C15 = true)
    (xcl15 : (PySem.W.clsIn K C15).isSome = true)
    (xha15 : PySem.W.findIn K (.ref C15) "__class__" = some (some (.builtin "object.__class__")))
    (xhm15 : PySem.W.mroIn K C15 (.type "object") = some true)
    (xnv15 : PySem.W.findIn K (.ref C15) "value" = some none)
    (xga16 : PySem.W.findIn K (.ref C16) "__getattribute__" = some (some (.builtin "BaseException.__getattribute__")))
    (xgg16 : PySem.W.findIn K (.ref C16) "__getattr__" = some none)
    (xex16 : PySem.W.subIn K (.ref C16) (.type "BaseException") = some true)
    (xhd16 : PySem.W.hasDictIn K C16 = true)
    (xcl16 : (PySem.W.clsIn K C16).isSome = true)
    (xha16 : PySem.W.findIn K (.ref C16) "__class__" = some (some (.builtin "object.__class__")))
    (xhm16 : PySem.W.mroIn K C16 (.type "object") = some true)
    (xnv16 : PySem.W.findIn K (.ref C16) "value" = some none)
    (xga17 : PySem.W.findIn K (.ref C17) "__getattribute__" = some (some (.builtin "BaseException.__getattribute__")))
    (xgg17 : PySem.W.findIn K (.ref C17) "__getattr__" = some none)
    (xex17 : PySem.W.subIn K (.ref C17) (.type "BaseException") = some true)
    (xhd17 : PySem.W.hasDictIn K C17 = true)
    (xcl17 : (PySem.W.clsIn K C17).isSome = true)
    (xha17 : PySem.W.findIn K (.ref C17) "__class__" = some (some (.builtin "object.__class__")))
    (xhm17 : PySem.W.mroIn K C17 (.type "object") = some true)
    (xnv17 : PySem.W.findIn K (.ref C17) "value" = some none)
    (xga18 : PySem.W.findIn K (.ref C18) "__getattribute__" = some (some (.builtin "BaseException.__getattribute__")))
    (xgg18 : PySem.W.findIn K (.ref C18) "__getattr__" = some none)
    (xex18 : PySem.W.subIn K (.ref C18) (.type "BaseException") = some true)
    (xhd18 : PySem.W.hasDictIn K C18 = true)
    (xcl18 : (PySem.W.clsIn K C18).isSome = true)
    (xha18 : PySem.W.findIn K (.ref C18) "__class__" = some (some (.builtin "object.__class__")))
    (xhm18 : PySem.W.mroIn K C18 (.type "object") = some true)
    (xnv18 : PySem.W.findIn K (.ref C18) "value" = some none)
    (xga19 : PySem.W.findIn K (.ref C19) "__getattribute__" = some (some (.builtin "BaseException.__getattribute__")))
    (xgg19 : PySem.W.findIn K (.ref C19) "__getattr__" = some none)
    (xex19 : PySem.W.subIn K (.ref C19) (.type "BaseException") = some true)
    (xhd19 : PySem.W.hasDictIn K C19 = true)
    (xcl19 : (PySem.W.clsIn K C19).isSome = true)
    (xha19 : PySem.W.findIn K (.ref C19) "__class__" = some (some (.builtin "object.__class__")))
    (xhm19 : PySem.W.mroIn K C19 (.type "object") = some true)
    (xnv19 : PySem.W.findIn K (.ref C19) "value" = some none)
    (xga20 : PySem.W.findIn K (.ref C20) "__getattribute__" = some (some (.builtin "BaseException.__getattribute__")))
    (xgg20 : PySem.W.findIn K (.ref C20) "__getattr__" = some none)
    (xex20 : PySem.W.subIn K (.ref C20) (.type "BaseException") = some true)
    (xhd20 : PySem.W.hasDictIn K C20 = true)
    (xcl20 : (PySem.W.clsIn K C20).isSome = true)
    (xha20 : PySem.W.findIn K (.ref C20) "__class__" = some (some (.builtin "object.__class__")))
    (xhm20 : PySem.W.mroIn K C20 (.type "object") = some true)
    (xnv20 : PySem.W.findIn K (.ref C20) "value" = some none)
    (xga21 : PySem.W.findIn K (.ref C21) "__getattribute__" = some (some (.builtin "BaseException.__getattribute__")))
    (xgg21 : PySem.W.findIn K (.ref C21) "__getattr__" = some none)
    (xex21 : PySem.W.subIn K (.ref C21) (.type "BaseException") = some true)
    (xhd21 : PySem.W.hasDictIn K C21 = true)
    (xcl21 : (PySem.W.clsIn K C21).isSome = true)
    (xha21 : PySem.W.findIn K (.ref C21) "__class__" = some (some (.builtin "object.__class__")))
    (xhm21 : PySem.W.mroIn K C21 (.type "object") = some true)
    (xnv21 : PySem.W.findIn K (.ref C21) "value" = some none)
    (xga22 : PySem.W.findIn K (.ref C22) "__getattribute__" = some (some (.builtin "BaseException.__getattribute__")))
    (xgg22 : PySem.W.findIn K (.ref C22) "__getattr__" = some none)
    (xex22 : PySem.W.subIn K (.ref C22) (.type "BaseException") = some true)
    (xhd22 : PySem.W.hasDictIn K C22 = true)
    (xcl22 : (PySem.W.clsIn K C22).isSome = true)
    (xha22 : PySem.W.findIn K (.ref C22) "__class__" = some (some (.builtin "object.__class__")))
    (xhm22 : PySem.W.mroIn K C22 (.type "object") = some true)
    (xnv22 : PySem.W.findIn K (.ref C22) "value" = some none)
    (xga23 : PySem.W.findIn K (.ref C23) "__getattribute__" = some (some (.builtin "BaseException.__getattribute__")))
    (xgg23 : PySem.W.findIn K (.ref C23) "__getattr__" = some none)
    (xex23 : PySem.W.subIn K (.ref C23) (.type "BaseException") = some true)
    (xhd23 : PySem.W.hasDictIn K C23 = true)
    (xcl23 : (PySem.W.clsIn K C23).isSome = true)
    (xha23 : PySem.W.findIn K (.ref C23) "__class__" = some (some (.builtin "object.__class__")))
    (xhm23 : PySem.W.mroIn K C23 (.type "object") = some true)
    (xnv23 : PySem.W.findIn K (.ref C23) "value" = some none)
    (xga24 : PySem.W.findIn K (.ref C24) "__getattribute__" = some (some (.builtin "BaseException.__getattribute__")))
    (xgg24 : PySem.W.findIn K (.ref C24) "__getattr__" = some none)
    (xex24 : PySem.W.subIn K (.ref C24) (.type "BaseException") = some true)
    (xhd24 : PySem.W.hasDictIn K C24 = true)
    (xcl24 : (PySem.W.clsIn K C24).isSome = true)
    (xha24 : PySem.W.findIn K (.ref C24) "__class__" = some (some (.builtin "object.__class__")))
    (xhm24 : PySem.W.mroIn K C24 (.type "object") = some true)
    (xnv24 : PySem.W.findIn K (.ref C24) "value" = some none)
    (xga25 : PySem.W.findIn K (.ref C25) "__getattribute__" = some (some (.builtin "BaseException.__getattribute__")))
    (xgg25 : PySem.W.findIn K (.ref C25) "__getattr__" = some none)
    (xex25 : PySem.W.subIn K (.ref C25) (.type "BaseException") = some true)
    (xhd25 : PySem.W.hasDictIn K C25 = true)
    (xcl25 : (PySem.W.clsIn K C25).isSome = true)
    (xha25 : PySem.W.findIn K (.ref C25) "__class__" = some (some (.builtin "object.__class__")))
    (xhm25 : PySem.W.mroIn K C25 (.type "object") = some true)
    (xnv25 : PySem.W.findIn K (.ref C25) "value" = some none)
    (xga26 : PySem.W.findIn K (.ref C26) "__getattribute__" = some (some (.builtin "BaseException.__getattribute__")))
    (xgg26 : PySem.W.findIn K (.ref C26) "__getattr__" = some none)
    (xex26 : PySem.W.subIn K (.ref C26) (.type "BaseException") = some true)
    (xhd26 : PySem.W.hasDictIn K C26 = true)
    (xcl26 : (PySem.W.clsIn K C26).isSome = true)
    (xha26 : PySem.W.findIn K (.ref C26) "__class__" = some (some (.builtin "object.__class__")))
    (xhm26 : PySem.W.mroIn K C26 (.type "object") = some true)
    (xnv26 : PySem.W.findIn K (.ref C26) "value" = some none)
    (xga27 : PySem.W.findIn K (.ref C27) "__getattribute__" = some (some (.builtin "BaseException.__getattribute__")))
    (xgg27 : PySem.W.findIn K (.ref C27) "__getattr__" = some none)
    (xex27 : PySem.W.subIn K (.ref C27) (.type "BaseException") = some true)
    (xhd27 : PySem.W.hasDictIn K C27 = true)
    (xcl27 : (PySem.W.clsIn K C27).isSome = true)
    (xha27 : PySem.W.findIn K (.ref C27) "__class__" = some (some (.builtin "object.__class__")))
    (xhm27 : PySem.W.mroIn K C27 (.type "object") = some true)
    (xnv27 : PySem.W.findIn K (.ref C27) "value" = some none)
    (xga28 : PySem.W.findIn K (.ref C28) "__getattribute__" = some (some (.builtin "BaseException.__getattribute__")))
    (xgg28 : PySem.W.findIn K (.ref C28) "__getattr__" = some none)
    (xex28 : PySem.W.subIn K (.ref C28) (.type "BaseException") = some true)
    (xhd28 : PySem.W.hasDictIn K C28 = true)
    (xcl28 : (PySem.W.clsIn K C28).isSome = true)
    (xha28 : PySem.W.findIn K (.ref C28) "__class__" = some (some (.builtin "object.__class__")))
    (xhm28 : PySem.W.mroIn K C28 (.type "object") = some true)
    (xnv28 : PySem.W.findIn K (.ref C28) "value" = some none)
    (xga29 : PySem.W.findIn K (.ref C29) "__getattribute__" = some (some (.builtin "BaseException.__getattribute__")))
    (xgg29 : PySem.W.findIn K (.ref C29) "__getattr__" = some none)
    (xex29 : PySem.W.subIn K (.ref C29) (.type "BaseException") = some true)
    (xhd29 : PySem.W.hasDictIn K C29 = true)
    (xcl29 : (PySem.W.clsIn K C29).isSome = true)
    (xha29 : PySem.W.findIn K (.ref C29) "__class__" = some (some (.builtin "object.__class__")))
    (xhm29 : PySem.W.mroIn K C29 (.type "object") = some true)
    (xnv29 : PySem.W.findIn K (.ref C29) "value" = some none)
    (opg30 : PySem.W.plainGet K C30 Str.empty = true)
    (ohd30 : PySem.W.hasDictIn K C30 = true)
    (opo30 : PySem.W.plainOver K C30 = true)
    (osa30 : PySem.W.findIn K (.ref C30) "__setattr__" = some (some (.builtin "object.__setattr__")))
    (oha30 : PySem.W.findIn K (.ref C30) "__class__" = some (some (.builtin "object.__class__")))
    (ohm30 : PySem.W.mroIn K C30 (.type "object") = some true)
    (ot30_0 : PySem.W.kitOne K (.ref C30) (.type "NoneType") = some false)
    (ot30_1 : PySem.W.kitOne K (.ref C30) (.type "bool") = some false)
    (ot30_2 : PySem.W.kitOne K (.ref C30) (.type "int") = some false)
    (ot30_3 : PySem.W.kitOne K (.ref C30) (.type "str") = some false)
    (ot30_4 : PySem.W.kitOne K (.ref C30) (.type "tuple") = some false)
    (ot30_5 : PySem.W.kitOne K (.ref C30) (.type "list") = some false)
    (nf30__many : PySem.W.findIn K (.ref C30) "_many" = some none)
    (nf30__pieces : PySem.W.findIn K (.ref C30) "_pieces" = some none)
    (ent : PySem.W.nsIn K PySem.cStatics "thirdparty.any" = some none)
    (esa1 : PySem.W.findIn K (.ref C1) "__setattr__" = some (some (.builtin "object.__setattr__")))
    (eiC1 : PySem.W.findIn K (.ref C1) "__init__" = some (some (.ref fI1)))
    (etC1 : PySem.W.typeIn K (.ref fI1) = some (.type "function"))
    (ekC1 : PySem.W.keepIn K (.ref C1) = true)
    (ety1 : PySem.W.typeIn K (.ref C1) = some (.type "type"))
    (exi1 : PySem.W.excInitIn K C1 veB "ValueError.__new__" = true)
    (esu1 : PySem.W.ks_superIn K C1 C1 "__init__" = some (some (.builtin "ValueError.__init__")))
    (esV1 : PySem.W.subIn K (.ref C1) (.type "ValueError") = some true)
    (emC1 : PySem.W.mroIn K C1 (.ref C1) = some true)
    (esa2 : PySem.W.findIn K (.ref C2) "__setattr__" = some (some (.builtin "object.__setattr__")))
    (eiC2 : PySem.W.findIn K (.ref C2) "__init__" = some (some (.ref fI2)))
    (etC2 : PySem.W.typeIn K (.ref fI2) = some (.type "function"))
    (ekC2 : PySem.W.keepIn K (.ref C2) = true)
    (ety2 : PySem.W.typeIn K (.ref C2) = some (.type "type"))
    (exi2 : PySem.W.excInitIn K C2 veB "ValueError.__new__" = true)
    (esu2 : PySem.W.ks_superIn K C2 C2 "__init__" = some (some (.builtin "ValueError.__init__")))
    (esV2 : PySem.W.subIn K (.ref C2) (.type "ValueError") = some true)
    (emC2 : PySem.W.mroIn K C2 (.ref C2) = some true)
    (esa3 : PySem.W.findIn K (.ref C3) "__setattr__" = some (some (.builtin "object.__setattr__")))
    (eiC3 : PySem.W.findIn K (.ref C3) "__init__" = some (some (.ref fI3)))
    (etC3 : PySem.W.typeIn K (.ref fI3) = some (.type "function"))
    (ekC3 : PySem.W.keepIn K (.ref C3) = true)
    (ety3 : PySem.W.typeIn K (.ref C3) = some (.type "type"))
    (exi3 : PySem.W.excInitIn K C3 veB "ValueError.__new__" = true)
    (esu3 : PySem.W.ks_superIn K C3 C3 "__init__" = some (some (.builtin "ValueError.__init__")))
    (esV3 : PySem.W.subIn K (.ref C3) (.type "ValueError") = some true)
    (emC3 : PySem.W.mroIn K C3 (.ref C3) = some true)
    (esa4 : PySem.W.findIn K (.ref C4) "__setattr__" = some (some (.builtin "object.__setattr__")))
    (eiC4 : PySem.W.findIn K (.ref C4) "__init__" = some (some (.ref fI4)))
    (etC4 : PySem.W.typeIn K (.ref fI4) = some (.type "function"))
    (ekC4 : PySem.W.keepIn K (.ref C4) = true)
    (ety4 : PySem.W.typeIn K (.ref C4) = some (.type "type"))
    (exi4 : PySem.W.excInitIn K C4 veB "ValueError.__new__" = true)
    (esu4 : PySem.W.ks_superIn K C4 C4 "__init__" = some (some (.builtin "ValueError.__init__")))
    (esV4 : PySem.W.subIn K (.ref C4) (.type "ValueError") = some true)
    (emC4 : PySem.W.mroIn K C4 (.ref C4) = some true)
    (esa5 : PySem.W.findIn K (.ref C5) "__setattr__" = some (some (.builtin "object.__setattr__")))
    (eiC5 : PySem.W.findIn K (.ref C5) "__init__" = some (some (.ref fI5)))
    (etC5 : PySem.W.typeIn K (.ref fI5) = some (.type "function"))
    (ekC5 : PySem.W.keepIn K (.ref C5) = true)
    (ety5 : PySem.W.typeIn K (.ref C5) = some (.type "type"))
    (exi5 : PySem.W.excInitIn K C5 veB "ValueError.__new__" = true)
    (esu5 : PySem.W.ks_superIn K C5 C5 "__init__" = some (some (.builtin "ValueError.__init__")))
    (esV5 : PySem.W.subIn K (.ref C5) (.type "ValueError") = some true)
    (emC5 : PySem.W.mroIn K C5 (.ref C5) = some true)
    (esa6 : PySem.W.findIn K (.ref C6) "__setattr__" = some (some (.builtin "object.__setattr__")))
    (eiC6 : PySem.W.findIn K (.ref C6) "__init__" = some (some (.ref fI6)))
    (etC6 : PySem.W.typeIn K (.ref fI6) = some (.type "function"))
    (ekC6 : PySem.W.keepIn K (.ref C6) = true)
    (ety6 : PySem.W.typeIn K (.ref C6) = some (.type "type"))
    (exi6 : PySem.W.excInitIn K C6 veB "ValueError.__new__" = true)
    (esu6 : PySem.W.ks_superIn K C6 C6 "__init__" = some (some (.builtin "ValueError.__init__")))
    (esV6 : PySem.W.subIn K (.ref C6) (.type "ValueError") = some true)
    (emC6 : PySem.W.mroIn K C6 (.ref C6) = some true)
    (esa7 : PySem.W.findIn K (.ref C7) "__setattr__" = some (some (.builtin "object.__setattr__")))
    (eiC7 : PySem.W.findIn K (.ref C7) "__init__" = some (some (.ref fI7)))
    (etC7 : PySem.W.typeIn K (.ref fI7) = some (.type "function"))
    (ekC7 : PySem.W.keepIn K (.ref C7) = true)
    (ety7 : PySem.W.typeIn K (.ref C7) = some (.type "type"))
    (exi7 : PySem.W.excInitIn K C7 veB "ValueError.__new__" = true)
    (esu7 : PySem.W.ks_superIn K C7 C7 "__init__" = some (some (.builtin "ValueError.__init__")))
    (esV7 : PySem.W.subIn K (.ref C7) (.type "ValueError") = some true)
    (emC7 : PySem.W.mroIn K C7 (.ref C7) = some true)
    (esa8 : PySem.W.findIn K (.ref C8) "__setattr__" = some (some (.builtin "object.__setattr__")))
    (eiC8 : PySem.W.findIn K (.ref C8) "__init__" = some (some (.ref fI8)))
    (etC8 : PySem.W.typeIn K (.ref fI8) = some (.type "function"))
    (ekC8 : PySem.W.keepIn K (.ref C8) = true)
    (ety8 : PySem.W.typeIn K (.ref C8) = some (.type "type"))
    (exi8 : PySem.W.excInitIn K C8 veB "ValueError.__new__" = true)
    (esu8 : PySem.W.ks_superIn K C8 C8 "__init__" = some (some (.builtin "ValueError.__init__")))
    (esV8 : PySem.W.subIn K (.ref C8) (.type "ValueError") = some true)
    (emC8 : PySem.W.mroIn K C8 (.ref C8) = some true)
    (esa9 : PySem.W.findIn K (.ref C9) "__setattr__" = some (some (.builtin "object.__setattr__")))
    (eiC9 : PySem.W.findIn K (.ref C9) "__init__" = some (some (.ref fI9)))
    (etC9 : PySem.W.typeIn K (.ref fI9) = some (.type "function"))
    (ekC9 : PySem.W.keepIn K (.ref C9) = true)
    (ety9 : PySem.W.typeIn K (.ref C9) = some (.type "type"))
    (exi9 : PySem.W.excInitIn K C9 veB "ValueError.__new__" = true)
    (esu9 : PySem.W.ks_superIn K C9 C9 "__init__" = some (some (.builtin "ValueError.__init__")))
    (esV9 : PySem.W.subIn K (.ref C9) (.type "ValueError") = some true)
    (emC9 : PySem.W.mroIn K C9 (.ref C9) = some true)
    (esa10 : PySem.W.findIn K (.ref C10) "__setattr__" = some (some (.builtin "object.__setattr__")))
    (eiC10 : PySem.W.findIn K (.ref C10) "__init__" = some (some (.ref fI10)))
    (etC10 : PySem.W.typeIn K (.ref fI10) = some (.type "function"))
    (ekC10 : PySem.W.keepIn K (.ref C10) = true)
    (ety10 : PySem.W.typeIn K (.ref C10) = some (.type "type"))
    (exi10 : PySem.W.excInitIn K C10 veB "ValueError.__new__" = true)
    (esu10 : PySem.W.ks_superIn K C10 C10 "__init__" = some (some (.builtin "ValueError.__init__")))
    (esV10 : PySem.W.subIn K (.ref C10) (.type "ValueError") = some true)
    (emC10 : PySem.W.mroIn K C10 (.ref C10) = some true)
    (esa11 : PySem.W.findIn K (.ref C11) "__setattr__" = some (some (.builtin "object.__setattr__")))
    (eiC11 : PySem.W.findIn K (.ref C11) "__init__" = some (some (.ref fI11)))
    (etC11 : PySem.W.typeIn K (.ref fI11) = some (.type "function"))
    (ekC11 : PySem.W.keepIn K (.ref C11) = true)
    (ety11 : PySem.W.typeIn K (.ref C11) = some (.type "type"))
    (exi11 : PySem.W.excInitIn K C11 veB "ValueError.__new__" = true)
    (esu11 : PySem.W.ks_superIn K C11 C11 "__init__" = some (some (.builtin "ValueError.__init__")))
    (esV11 : PySem.W.subIn K (.ref C11) (.type "ValueError") = some true)
    (emC11 : PySem.W.mroIn K C11 (.ref C11) = some true)
    (esa12 : PySem.W.findIn K (.ref C12) "__setattr__" = some (some (.builtin "object.__setattr__")))
    (eiC12 : PySem.W.findIn K (.ref C12) "__init__" = some (some (.ref fI12)))
    (etC12 : PySem.W.typeIn K (.ref fI12) = some (.type "function"))
    (ekC12 : PySem.W.keepIn K (.ref C12) = true)
    (ety12 : PySem.W.typeIn K (.ref C12) = some (.type "type"))
    (exi12 : PySem.W.excInitIn K C12 veB "ValueError.__new__" = true)
    (esu12 : PySem.W.ks_superIn K C12 C12 "__init__" = some (some (.builtin "ValueError.__init__")))
    (esV12 : PySem.W.subIn K (.ref C12) (.type "ValueError") = some true)
    (emC12 : PySem.W.mroIn K C12 (.ref C12) = some true)
    (esa13 : PySem.W.findIn K (.ref C13) "__setattr__" = some (some (.builtin "object.__setattr__")))
    (eiC13 : PySem.W.findIn K (.ref C13) "__init__" = some (some (.ref fI13)))
    (etC13 : PySem.W.typeIn K (.ref fI13) = some (.type "function"))
    (ekC13 : PySem.W.keepIn K (.ref C13) = true)
    (ety13 : PySem.W.typeIn K (.ref C13) = some (.type "type"))
    (exi13 : PySem.W.excInitIn K C13 veB "ValueError.__new__" = true)
    (esu13 : PySem.W.ks_superIn K C13 C13 "__init__" = some (some (.builtin "ValueError.__init__")))
    (esV13 : PySem.W.subIn K (.ref C13) (.type "ValueError") = some true)
    (emC13 : PySem.W.mroIn K C13 (.ref C13) = some true)
    (esa14 : PySem.W.findIn K (.ref C14) "__setattr__" = some (some (.builtin "object.__setattr__")))
    (eiC14 : PySem.W.findIn K (.ref C14) "__init__" = some (some (.ref fI14)))
    (etC14 : PySem.W.typeIn K (.ref fI14) = some (.type "function"))
    (ekC14 : PySem.W.keepIn K (.ref C14) = true)
    (ety14 : PySem.W.typeIn K (.ref C14) = some (.type "type"))
    (exi14 : PySem.W.excInitIn K C14 veB "ValueError.__new__" = true)
    (esu14 : PySem.W.ks_superIn K C14 C14 "__init__" = some (some (.builtin "ValueError.__init__")))
    (esV14 : PySem.W.subIn K (.ref C14) (.type "ValueError") = some true)
    (emC14 : PySem.W.mroIn K C14 (.ref C14) = some true)
    (esa15 : PySem.W.findIn K (.ref C15) "__setattr__" = some (some (.builtin "object.__setattr__")))
    (eiC15 : PySem.W.findIn K (.ref C15) "__init__" = some (some (.ref fI15)))
    (etC15 : PySem.W.typeIn K (.ref fI15) = some (.type "function"))
    (ekC15 : PySem.W.keepIn K (.ref C15) = true)
    (ety15 : PySem.W.typeIn K (.ref C15) = some (.type "type"))
    (exi15 : PySem.W.excInitIn K C15 veB "ValueError.__new__" = true)
    (esu15 : PySem.W.ks_superIn K C15 C15 "__init__" = some (some (.builtin "ValueError.__init__")))
    (esV15 : PySem.W.subIn K (.ref C15) (.type "ValueError") = some true)
    (emC15 : PySem.W.mroIn K C15 (.ref C15) = some true)
    (esa16 : PySem.W.findIn K (.ref C16) "__setattr__" = some (some (.builtin "object.__setattr__")))
    (eiC16 : PySem.W.findIn K (.ref C16) "__init__" = some (some (.ref fI16)))
    (etC16 : PySem.W.typeIn K (.ref fI16) = some (.type "function"))
    (ekC16 : PySem.W.keepIn K (.ref C16) = true)
    (ety16 : PySem.W.typeIn K (.ref C16) = some (.type "type"))
    (exi16 : PySem.W.excInitIn K C16 veB "ValueError.__new__" = true)
    (esu16 : PySem.W.ks_superIn K C16 C16 "__init__" = some (some (.builtin "ValueError.__init__")))
    (esV16 : PySem.W.subIn K (.ref C16) (.type "ValueError") = some true)
    (emC16 : PySem.W.mroIn K C16 (.ref C16) = some true)
    (esa17 : PySem.W.findIn K (.ref C17) "__setattr__" = some (some (.builtin "object.__setattr__")))
    (eiC17 : PySem.W.findIn K (.ref C17) "__init__" = some (some (.ref fI17)))
    (etC17 : PySem.W.typeIn K (.ref fI17) = some (.type "function"))
    (ekC17 : PySem.W.keepIn K (.ref C17) = true)
    (ety17 : PySem.W.typeIn K (.ref C17) = some (.type "type"))
    (exi17 : PySem.W.excInitIn K C17 veB "ValueError.__new__" = true)
    (esu17 : PySem.W.ks_superIn K C17 C17 "__init__" = some (some (.builtin "ValueError.__init__")))
    (esV17 : PySem.W.subIn K (.ref C17) (.type "ValueError") = some true)
    (emC17 : PySem.W.mroIn K C17 (.ref C17) = some true)
    (esa18 : PySem.W.findIn K (.ref C18) "__setattr__" = some (some (.builtin "object.__setattr__")))
    (eiC18 : PySem.W.findIn K (.ref C18) "__init__" = some (some (.ref fI18)))
    (etC18 : PySem.W.typeIn K (.ref fI18) = some (.type "function"))
    (ekC18 : PySem.W.keepIn K (.ref C18) = true)
    (ety18 : PySem.W.typeIn K (.ref C18) = some (.type "type"))
    (exi18 : PySem.W.excInitIn K C18 veB "ValueError.__new__" = true)
    (esu18 : PySem.W.ks_superIn K C18 C18 "__init__" = some (some (.builtin "ValueError.__init__")))
    (esV18 : PySem.W.subIn K (.ref C18) (.type "ValueError") = some true)
    (emC18 : PySem.W.mroIn K C18 (.ref C18) = some true)
    (esa19 : PySem.W.findIn K (.ref C19) "__setattr__" = some (some (.builtin "object.__setattr__")))
    (eiC19 : PySem.W.findIn K (.ref C19) "__init__" = some (some (.ref fI19)))
    (etC19 : PySem.W.typeIn K (.ref fI19) = some (.type "function"))
    (ekC19 : PySem.W.keepIn K (.ref C19) = true)
    (ety19 : PySem.W.typeIn K (.ref C19) = some (.type "type"))
    (exi19 : PySem.W.excInitIn K C19 veB "ValueError.__new__" = true)
    (esu19 : PySem.W.ks_superIn K C19 C19 "__init__" = some (some (.builtin "ValueError.__init__")))
    (esV19 : PySem.W.subIn K (.ref C19) (.type "ValueError") = some true)
    (emC19 : PySem.W.mroIn K C19 (.ref C19) = some true)
    (esa20 : PySem.W.findIn K (.ref C20) "__setattr__" = some (some (.builtin "object.__setattr__")))
    (eiC20 : PySem.W.findIn K (.ref C20) "__init__" = some (some (.ref fI20)))
    (etC20 : PySem.W.typeIn K (.ref fI20) = some (.type "function"))
    (ekC20 : PySem.W.keepIn K (.ref C20) = true)
    (ety20 : PySem.W.typeIn K (.ref C20) = some (.type "type"))
    (exi20 : PySem.W.excInitIn K C20 veB "ValueError.__new__" = true)
    (esu20 : PySem.W.ks_superIn K C20 C20 "__init__" = some (some (.builtin "ValueError.__init__")))
    (esV20 : PySem.W.subIn K (.ref C20) (.type "ValueError") = some true)
    (emC20 : PySem.W.mroIn K C20 (.ref C20) = some true)
    (esa21 : PySem.W.findIn K (.ref C21) "__setattr__" = some (some (.builtin "object.__setattr__")))
    (eiC21 : PySem.W.findIn K (.ref C21) "__init__" = some (some (.ref fI21)))
    (etC21 : PySem.W.typeIn K (.ref fI21) = some (.type "function"))
    (ekC21 : PySem.W.keepIn K (.ref C21) = true)
    (ety21 : PySem.W.typeIn K (.ref C21) = some (.type "type"))
    (exi21 : PySem.W.excInitIn K C21 veB "ValueError.__new__" = true)
    (esu21 : PySem.W.ks_superIn K C21 C21 "__init__" = some (some (.builtin "ValueError.__init__")))
    (esV21 : PySem.W.subIn K (.ref C21) (.type "ValueError") = some true)
    (emC21 : PySem.W.mroIn K C21 (.ref C21) = some true)
    (esa22 : PySem.W.findIn K (.ref C22) "__setattr__" = some (some (.builtin "object.__setattr__")))
    (eiC22 : PySem.W.findIn K (.ref C22) "__init__" = some (some (.ref fI22)))
    (etC22 : PySem.W.typeIn K (.ref fI22) = some (.type "function"))
    (ekC22 : PySem.W.keepIn K (.ref C22) = true)
    (ety22 : PySem.W.typeIn K (.ref C22) = some (.type "type"))
    (exi22 : PySem.W.excInitIn K C22 veB "ValueError.__new__" = true)
    (esu22 : PySem.W.ks_superIn K C22 C22 "__init__" = some (some (.builtin "ValueError.__init__")))
    (esV22 : PySem.W.subIn K (.ref C22) (.type "ValueError") = some true)
    (emC22 : PySem.W.mroIn K C22 (.ref C22) = some true)
    (esa23 : PySem.W.findIn K (.ref C23) "__setattr__" = some (some (.builtin "object.__setattr__")))
    (eiC23 : PySem.W.findIn K (.ref C23) "__init__" = some (some (.ref fI23)))
    (etC23 : PySem.W.typeIn K (.ref fI23) = some (.type "function"))
    (ekC23 : PySem.W.keepIn K (.ref C23) = true)
    (ety23 : PySem.W.typeIn K (.ref C23) = some (.type "type"))
    (exi23 : PySem.W.excInitIn K C23 veB "ValueError.__new__" = true)
    (esu23 : PySem.W.ks_superIn K C23 C23 "__init__" = some (some (.builtin "ValueError.__init__")))
    (esV23 : PySem.W.subIn K (.ref C23) (.type "ValueError") = some true)
    (emC23 : PySem.W.mroIn K C23 (.ref C23) = some true)
    (esa24 : PySem.W.findIn K (.ref C24) "__setattr__" = some (some (.builtin "object.__setattr__")))
    (eiC24 : PySem.W.findIn K (.ref C24) "__init__" = some (some (.ref fI24)))
    (etC24 : PySem.W.typeIn K (.ref fI24) = some (.type "function"))
    (ekC24 : PySem.W.keepIn K (.ref C24) = true)
    (ety24 : PySem.W.typeIn K (.ref C24) = some (.type "type"))
    (exi24 : PySem.W.excInitIn K C24 veB "ValueError.__new__" = true)
    (esu24 : PySem.W.ks_superIn K C24 C24 "__init__" = some (some (.builtin "ValueError.__init__")))
    (esV24 : PySem.W.subIn K (.ref C24) (.type "ValueError") = some true)
    (emC24 : PySem.W.mroIn K C24 (.ref C24) = some true)
    (esa25 : PySem.W.findIn K (.ref C25) "__setattr__" = some (some (.builtin "object.__setattr__")))
    (eiC25 : PySem.W.findIn K (.ref C25) "__init__" = some (some (.ref fI25)))
    (etC25 : PySem.W.typeIn K (.ref fI25) = some (.type "function"))
    (ekC25 : PySem.W.keepIn K (.ref C25) = true)
    (ety25 : PySem.W.typeIn K (.ref C25) = some (.type "type"))
    (exi25 : PySem.W.excInitIn K C25 veB "ValueError.__new__" = true)
    (esu25 : PySem.W.ks_superIn K C25 C25 "__init__" = some (some (.builtin "ValueError.__init__")))
    (esV25 : PySem.W.subIn K (.ref C25) (.type "ValueError") = some true)
    (emC25 : PySem.W.mroIn K C25 (.ref C25) = some true)
    (esa26 : PySem.W.findIn K (.ref C26) "__setattr__" = some (some (.builtin "object.__setattr__")))
    (eiC26 : PySem.W.findIn K (.ref C26) "__init__" = some (some (.ref fI26)))
    (etC26 : PySem.W.typeIn K (.ref fI26) = some (.type "function"))
    (ekC26 : PySem.W.keepIn K (.ref C26) = true)
    (ety26 : PySem.W.typeIn K (.ref C26) = some (.type "type"))
    (exi26 : PySem.W.excInitIn K C26 veB "ValueError.__new__" = true)
    (esu26 : PySem.W.ks_superIn K C26 C26 "__init__" = some (some (.builtin "ValueError.__init__")))
    (esV26 : PySem.W.subIn K (.ref C26) (.type "ValueError") = some true)
    (emC26 : PySem.W.mroIn K C26 (.ref C26) = some true)
    (esa27 : PySem.W.findIn K (.ref C27) "__setattr__" = some (some (.builtin "object.__setattr__")))
    (eiC27 : PySem.W.findIn K (.ref C27) "__init__" = some (some (.ref fI27)))
    (etC27 : PySem.W.typeIn K (.ref fI27) = some (.type "function"))
    (ekC27 : PySem.W.keepIn K (.ref C27) = true)
    (ety27 : PySem.W.typeIn K (.ref C27) = some (.type "type"))
    (exi27 : PySem.W.excInitIn K C27 veB "ValueError.__new__" = true)
    (esu27 : PySem.W.ks_superIn K C27 C27 "__init__" = some (some (.builtin "ValueError.__init__")))
    (esV27 : PySem.W.subIn K (.ref C27) (.type "ValueError") = some true)
    (emC27 : PySem.W.mroIn K C27 (.ref C27) = some true)
    (ec1 : K.lookup C1 = some (PySem.excClassObj nm1 qq1 C1 N1 bs1 bm1 true sn1 sub1 ab1 col1 dd1 k0_1 k1_1 k2_1 k3_1 k5_1 "ValueError.__new__"))
    (er1 : PySem.HandSPX.refsVE bm1 = true)
    (fl1 : K.lookup fI1 = some ⟨oc1, od1, .func (PySem.W.ksFn "__init__" qual1 (iA p11 p21 pd1) (iB q1_1 q2_1 q3_1 q4_1 q5_1 q6_1 q7_1 q8_1 q9_1 qa_1) iS (.ref Td1) kV1 doc1 pm1 an1 (.ref cda1) ct1 cc1), osl1⟩)
    (fc1 : PySem.W.codeIn K (.ref cda1) qual1 = true)
    (fT1 : K.lookup Td1 = some ⟨To1, Tt1, .seq #[.none] nT1, Ts1⟩)
    (fp1 : (q3_1.endLine == q5_1.line) = true)
    (fd1 : K.lookup cda1 = some ⟨ccl1, cdd1, .fields vs1, ccs1⟩)
    (fv1 : vs1[2]? = some (.str file1 tf1))
    (ff1 : (P.main.file == file1) = true)
    (fk1 : K.lookup cc1 = some ⟨cl1, cld1, .cell (some (.ref C1)), csl1⟩)
    (ec2 : K.lookup C2 = some (PySem.excClassObj nm2 qq2 C2 N2 bs2 bm2 true sn2 sub2 ab2 col2 dd2 k0_2 k1_2 k2_2 k3_2 k5_2 "ValueError.__new__"))
    (er2 : PySem.HandSPX.refsVE bm2 = true)
    (fl2 : K.lookup fI2 = some ⟨oc2, od2, .func (PySem.W.ksFn "__init__" qual2 (iA p12 p22 pd2) (iB q1_2 q2_2 q3_2 q4_2 q5_2 q6_2 q7_2 q8_2 q9_2 qa_2) iS (.ref Td2) kV2 doc2 pm2 an2 (.ref cda2) ct2 cc2), osl2⟩)
    (fc2 : PySem.W.codeIn K (.ref cda2) qual2 = true)
    (fT2 : K.lookup Td2 = some ⟨To2, Tt2, .seq #[.none] nT2, Ts2⟩)
    (fp2 : (q3_2.endLine == q5_2.line) = true)
    (fd2 : K.lookup cda2 = some ⟨ccl2, cdd2, .fields vs2, ccs2⟩)
    (fv2 : vs2[2]? = some (.str file2 tf2))
    (ff2 : (P.main.file == file2) = true)
    (fk2 : K.lookup cc2 = some ⟨cl2, cld2, .cell (some (.ref C2)), csl2⟩)
    (ec3 : K.lookup C3 = some (PySem.excClassObj nm3 qq3 C3 N3 bs3 bm3 true sn3 sub3 ab3 col3 dd3 k0_3 k1_3 k2_3 k3_3 k5_3 "ValueError.__new__"))
    (er3 : PySem.HandSPX.refsVE bm3 = true)
    (fl3 : K.lookup fI3 = some ⟨oc3, od3, .func (PySem.W.ksFn "__init__" qual3 (iA p13 p23 pd3) (iB q1_3 q2_3 q3_3 q4_3 q5_3 q6_3 q7_3 q8_3 q9_3 qa_3) iS (.ref Td3) kV3 doc3 pm3 an3 (.ref cda3) ct3 cc3), osl3⟩)
    (fc3 : PySem.W.codeIn K (.ref cda3) qual3 = true)
    (fT3 : K.lookup Td3 = some ⟨To3, Tt3, .seq #[.none] nT3, Ts3⟩)
    (fp3 : (q3_3.endLine == q5_3.line) = true)
    (fd3 : K.lookup cda3 = some ⟨ccl3, cdd3, .fields vs3, ccs3⟩)
    (fv3 : vs3[2]? = some (.str file3 tf3))
    (ff3 : (P.main.file == file3) = true)
    (fk3 : K.lookup cc3 = some ⟨cl3, cld3, .cell (some (.ref C3)), csl3⟩)
    (ec4 : K.lookup C4 = some (PySem.excClassObj nm4 qq4 C4 N4 bs4 bm4 true sn4 sub4 ab4 col4 dd4 k0_4 k1_4 k2_4 k3_4 k5_4 "ValueError.__new__"))
    (er4 : PySem.HandSPX.refsVE bm4 = true)
    (fl4 : K.lookup fI4 = some ⟨oc4, od4, .func (PySem.W.ksFn "__init__" qual4 (iA p14 p24 pd4) (iB q1_4 q2_4 q3_4 q4_4 q5_4 q6_4 q7_4 q8_4 q9_4 qa_4) iS (.ref Td4) kV4 doc4 pm4 an4 (.ref cda4) ct4 cc4), osl4⟩)
    (fc4 : PySem.W.codeIn K (.ref cda4) qual4 = true)
    (fT4 : K.lookup Td4 = some ⟨To4, Tt4, .seq #[.none] nT4, Ts4⟩)
    (fp4 : (q3_4.endLine == q5_4.line) = true)
    (fd4 : K.lookup cda4 = some ⟨ccl4, cdd4, .fields vs4, ccs4⟩)
    (fv4 : vs4[2]? = some (.str file4 tf4))
    (ff4 : (P.main.file == file4) = true)
    (fk4 : K.lookup cc4 = some ⟨cl4, cld4, .cell (some (.ref C4)), csl4⟩)
    (ec5 : K.lookup C5 = some (PySem.excClassObj nm5 qq5 C5 N5 bs5 bm5 true sn5 sub5 ab5 col5 dd5 k0_5 k1_5 k2_5 k3_5 k5_5 "ValueError.__new__"))
    (er5 : PySem.HandSPX.refsVE bm5 = true)
    (fl5 : K.lookup fI5 = some ⟨oc5, od5, .func (PySem.W.ksFn "__init__" qual5 (iA p15 p25 pd5) (iB q1_5 q2_5 q3_5 q4_5 q5_5 q6_5 q7_5 q8_5 q9_5 qa_5) iS (.ref Td5) kV5 doc5 pm5 an5 (.ref cda5) ct5 cc5), osl5⟩)
    (fc5 : PySem.W.codeIn K (.ref cda5) qual5 = true)
    (fT5 : K.lookup Td5 = some ⟨To5, Tt5, .seq #[.none] nT5, Ts5⟩)
    (fp5 : (q3_5.endLine == q5_5.line) = true)
    (fd5 : K.lookup cda5 = some ⟨ccl5, cdd5, .fields vs5, ccs5⟩)
    (fv5 : vs5[2]? = some (.str file5 tf5))
    (ff5 : (P.main.file == file5) = true)
    (fk5 : K.lookup cc5 = some ⟨cl5, cld5, .cell (some (.ref C5)), csl5⟩)
    (ec6 : K.lookup C6 = some (PySem.excClassObj nm6 qq6 C6 N6 bs6 bm6 true sn6 sub6 ab6 col6 dd6 k0_6 k1_6 k2_6 k3_6 k5_6 "ValueError.__new__"))
    (er6 : PySem.HandSPX.refsVE bm6 = true)
    (fl6 : K.lookup fI6 = some ⟨oc6, od6, .func (PySem.W.ksFn "__init__" qual6 (iA p16 p26 pd6) (iB q1_6 q2_6 q3_6 q4_6 q5_6 q6_6 q7_6 q8_6 q9_6 qa_6) iS (.ref Td6) kV6 doc6 pm6 an6 (.ref cda6) ct6 cc6), osl6⟩)
    (fc6 : PySem.W.codeIn K (.ref cda6) qual6 = true)
    (fT6 : K.lookup Td6 = some ⟨To6, Tt6, .seq #[.none] nT6, Ts6⟩)
    (fp6 : (q3_6.endLine == q5_6.line) = true)
    (fd6 : K.lookup cda6 = some ⟨ccl6, cdd6, .fields vs6, ccs6⟩)
    (fv6 : vs6[2]? = some (.str file6 tf6))
    (ff6 : (P.main.file == file6) = true)
    (fk6 : K.lookup cc6 = some ⟨cl6, cld6, .cell (some (.ref C6)), csl6⟩)
    (ec7 : K.lookup C7 = some (PySem.excClassObj nm7 qq7 C7 N7 bs7 bm7 true sn7 sub7 ab7 col7 dd7 k0_7 k1_7 k2_7 k3_7 k5_7 "ValueError.__new__"))
    (er7 : PySem.HandSPX.refsVE bm7 = true)
    (fl7 : K.lookup fI7 = some ⟨oc7, od7, .func (PySem.W.ksFn "__init__" qual7 (iA p17 p27 pd7) (iB q1_7 q2_7 q3_7 q4_7 q5_7 q6_7 q7_7 q8_7 q9_7 qa_7) iS (.ref Td7) kV7 doc7 pm7 an7 (.ref cda7) ct7 cc7), osl7⟩)
    (fc7 : PySem.W.codeIn K (.ref cda7) qual7 = true)
    (fT7 : K.lookup Td7 = some ⟨To7, Tt7, .seq #[.none] nT7, Ts7⟩)
    (fp7 : (q3_7.endLine == q5_7.line) = true)
    (fd7 : K.lookup cda7 = some ⟨ccl7, cdd7, .fields vs7, ccs7⟩)
    (fv7 : vs7[2]? = some (.str file7 tf7))
    (ff7 : (P.main.file == file7) = true)
    (fk7 : K.lookup cc7 = some ⟨cl7, cld7, .cell (some (.ref C7)), csl7⟩)
    (ec8 : K.lookup C8 = some (PySem.excClassObj nm8 qq8 C8 N8 bs8 bm8 true sn8 sub8 ab8 col8 dd8 k0_8 k1_8 k2_8 k3_8 k5_8 "ValueError.__new__"))
    (er8 : PySem.HandSPX.refsVE bm8 = true)
    (fl8 : K.lookup fI8 = some ⟨oc8, od8, .func (PySem.W.ksFn "__init__" qual8 (iA p18 p28 pd8) (iB q1_8 q2_8 q3_8 q4_8 q5_8 q6_8 q7_8 q8_8 q9_8 qa_8) iS (.ref Td8) kV8 doc8 pm8 an8 (.ref cda8) ct8 cc8), osl8⟩)
    (fc8 : PySem.W.codeIn K (.ref cda8) qual8 = true)
    (fT8 : K.lookup Td8 = some ⟨To8, Tt8, .seq #[.none] nT8, Ts8⟩)
    (fp8 : (q3_8.endLine == q5_8.line) = true)
    (fd8 : K.lookup cda8 = some ⟨ccl8, cdd8, .fields vs8, ccs8⟩)
    (fv8 : vs8[2]? = some (.str file8 tf8))
    (ff8 : (P.main.file == file8) = true)
    (fk8 : K.lookup cc8 = some ⟨cl8, cld8, .cell (some (.ref C8)), csl8⟩)
    (ec9 : K.lookup C9 = some (PySem.excClassObj nm9 qq9 C9 N9 bs9 bm9 true sn9 sub9 ab9 col9 dd9 k0_9 k1_9 k2_9 k3_9 k5_9 "ValueError.__new__"))
    (er9 : PySem.HandSPX.refsVE bm9 = true)
    (fl9 : K.lookup fI9 = some ⟨oc9, od9, .func (PySem.W.ksFn "__init__" qual9 (iA p19 p29 pd9) (iB q1_9 q2_9 q3_9 q4_9 q5_9 q6_9 q7_9 q8_9 q9_9 qa_9) iS (.ref Td9) kV9 doc9 pm9 an9 (.ref cda9) ct9 cc9), osl9⟩)
    (fc9 : PySem.W.codeIn K (.ref cda9) qual9 = true)
    (fT9 : K.lookup Td9 = some ⟨To9, Tt9, .seq #[.none] nT9, Ts9⟩)
    (fp9 : (q3_9.endLine == q5_9.line) = true)
    (fd9 : K.lookup cda9 = some ⟨ccl9, cdd9, .fields vs9, ccs9⟩)
    (fv9 : vs9[2]? = some (.str file9 tf9))
    (ff9 : (P.main.file == file9) = true)
    (fk9 : K.lookup cc9 = some ⟨cl9, cld9, .cell (some (.ref C9)), csl9⟩)
    (ec10 : K.lookup C10 = some (PySem.excClassObj nm10 qq10 C10 N10 bs10 bm10 true sn10 sub10 ab10 col10 dd10 k0_10 k1_10 k2_10 k3_10 k5_10 "ValueError.__new__"))
    (er10 : PySem.HandSPX.refsVE bm10 = true)
    (fl10 : K.lookup fI10 = some ⟨oc10, od10, .func (PySem.W.ksFn "__init__" qual10 (iA p110 p210 pd10) (iB q1_10 q2_10 q3_10 q4_10 q5_10 q6_10 q7_10 q8_10 q9_10 qa_10) iS (.ref Td10) kV10 doc10 pm10 an10 (.ref cda10) ct10 cc10), osl10⟩)
    (fc10 : PySem.W.codeIn K (.ref cda10) qual10 = true)
    (fT10 : K.lookup Td10 = some ⟨To10, Tt10, .seq #[.none] nT10, Ts10⟩)
    (fp10 : (q3_10.endLine == q5_10.line) = true)
    (fd10 : K.lookup cda10 = some ⟨ccl10, cdd10, .fields vs10, ccs10⟩)
    (fv10 : vs10[2]? = some (.str file10 tf10))
    (ff10 : (P.main.file == file10) = true)
    (fk10 : K.lookup cc10 = some ⟨cl10, cld10, .cell (some (.ref C10)), csl10⟩)
    (ec11 : K.lookup C11 = some (PySem.excClassObj nm11 qq11 C11 N11 bs11 bm11 true sn11 sub11 ab11 col11 dd11 k0_11 k1_11 k2_11 k3_11 k5_11 "ValueError.__new__"))
    (er11 : PySem.HandSPX.refsVE bm11 = true)
    (fl11 : K.lookup fI11 = some ⟨oc11, od11, .func (PySem.W.ksFn "__init__" qual11 (iA p111 p211 pd11) (iB q1_11 q2_11 q3_11 q4_11 q5_11 q6_11 q7_11 q8_11 q9_11 qa_11) iS (.ref Td11) kV11 doc11 pm11 an11 (.ref cda11) ct11 cc11), osl11⟩)
    (fc11 : PySem.W.codeIn K (.ref cda11) qual11 = true)
    (fT11 : K.lookup Td11 = some ⟨To11, Tt11, .seq #[.none] nT11, Ts11⟩)
    (fp11 : (q3_11.endLine == q5_11.line) = true)
    (fd11 : K.lookup cda11 = some ⟨ccl11, cdd11, .fields vs11, ccs11⟩)
    (fv11 : vs11[2]? = some (.str file11 tf11))
    (ff11 : (P.main.file == file11) = true)
    (fk11 : K.lookup cc11 = some ⟨cl11, cld11, .cell (some (.ref C11)), csl11⟩)
    (ec12 : K.lookup C12 = some (PySem.excClassObj nm12 qq12 C12 N12 bs12 bm12 true sn12 sub12 ab12 col12 dd12 k0_12 k1_12 k2_12 k3_12 k5_12 "ValueError.__new__"))
    (er12 : PySem.HandSPX.refsVE bm12 = true)
    (fl12 : K.lookup fI12 = some ⟨oc12, od12, .func (PySem.W.ksFn "__init__" qual12 (iA p112 p212 pd12) (iB q1_12 q2_12 q3_12 q4_12 q5_12 q6_12 q7_12 q8_12 q9_12 qa_12) iS (.ref Td12) kV12 doc12 pm12 an12 (.ref cda12) ct12 cc12), osl12⟩)
    (fc12 : PySem.W.codeIn K (.ref cda12) qual12 = true)
    (fT12 : K.lookup Td12 = some ⟨To12, Tt12, .seq #[.none] nT12, Ts12⟩)
    (fp12 : (q3_12.endLine == q5_12.line) = true)
    (fd12 : K.lookup cda12 = some ⟨ccl12, cdd12, .fields vs12, ccs12⟩)
    (fv12 : vs12[2]? = some (.str file12 tf12))
    (ff12 : (P.main.file == file12) = true)
    (fk12 : K.lookup cc12 = some ⟨cl12, cld12, .cell (some (.ref C12)), csl12⟩)
    (ec13 : K.lookup C13 = some (PySem.excClassObj nm13 qq13 C13 N13 bs13 bm13 true sn13 sub13 ab13 col13 dd13 k0_13 k1_13 k2_13 k3_13 k5_13 "ValueError.__new__"))
    (er13 : PySem.HandSPX.refsVE bm13 = true)
    (fl13 : K.lookup fI13 = some ⟨oc13, od13, .func (PySem.W.ksFn "__init__" qual13 (iA p113 p213 pd13) (iB q1_13 q2_13 q3_13 q4_13 q5_13 q6_13 q7_13 q8_13 q9_13 qa_13) iS (.ref Td13) kV13 doc13 pm13 an13 (.ref cda13) ct13 cc13), osl13⟩)
    (fc13 : PySem.W.codeIn K (.ref cda13) qual13 = true)
    (fT13 : K.lookup Td13 = some ⟨To13, Tt13, .seq #[.none] nT13, Ts13⟩)
    (fp13 : (q3_13.endLine == q5_13.line) = true)
    (fd13 : K.lookup cda13 = some ⟨ccl13, cdd13, .fields vs13, ccs13⟩)
    (fv13 : vs13[2]? = some (.str file13 tf13))
    (ff13 : (P.main.file == file13) = true)
    (fk13 : K.lookup cc13 = some ⟨cl13, cld13, .cell (some (.ref C13)), csl13⟩)
    (ec14 : K.lookup C14 = some (PySem.excClassObj nm14 qq14 C14 N14 bs14 bm14 true sn14 sub14 ab14 col14 dd14 k0_14 k1_14 k2_14 k3_14 k5_14 "ValueError.__new__"))
    (er14 : PySem.HandSPX.refsVE bm14 = true)
    (fl14 : K.lookup fI14 = some ⟨oc14, od14, .func (PySem.W.ksFn "__init__" qual14 (iA p114 p214 pd14) (iB q1_14 q2_14 q3_14 q4_14 q5_14 q6_14 q7_14 q8_14 q9_14 qa_14) iS (.ref Td14) kV14 doc14 pm14 an14 (.ref cda14) ct14 cc14), osl14⟩)
    (fc14 : PySem.W.codeIn K (.ref cda14) qual14 = true)
    (fT14 : K.lookup Td14 = some ⟨To14, Tt14, .seq #[.none] nT14, Ts14⟩)
    (fp14 : (q3_14.endLine == q5_14.line) = true)
    (fd14 : K.lookup cda14 = some ⟨ccl14, cdd14, .fields vs14, ccs14⟩)
    (fv14 : vs14[2]? = some (.str file14 tf14))
    (ff14 : (P.main.file == file14) = true)
    (fk14 : K.lookup cc14 = some ⟨cl14, cld14, .cell (some (.ref C14)), csl14⟩)
    (ec15 : K.lookup C15 = some (PySem.excClassObj nm15 qq15 C15 N15 bs15 bm15 true sn15 sub15 ab15 col15 dd15 k0_15 k1_15 k2_15 k3_15 k5_15 "ValueError.__new__"))
    (er15 : PySem.HandSPX.refsVE bm15 = true)
    (fl15 : K.lookup fI15 = some ⟨oc15, od15, .func (PySem.W.ksFn "__init__" qual15 (iA p115 p215 pd15) (iB q1_15 q2_15 q3_15 q4_15 q5_15 q6_15 q7_15 q8_15 q9_15 qa_15) iS (.ref Td15) kV15 doc15 pm15 an15 (.ref cda15) ct15 cc15), osl15⟩)
    (fc15 : PySem.W.codeIn K (.ref cda15) qual15 = true)
    (fT15 : K.lookup Td15 = some ⟨To15, Tt15, .seq #[.none] nT15, Ts15⟩)
    (fp15 : (q3_15.endLine == q5_15.line) = true)
    (fd15 : K.lookup cda15 = some ⟨ccl15, cdd15, .fields vs15, ccs15⟩)
    (fv15 : vs15[2]? = some (.str file15 tf15))
    (ff15 : (P.main.file == file15) = true)
    (fk15 : K.lookup cc15 = some ⟨cl15, cld15, .cell (some (.ref C15)), csl15⟩)
    (ec16 : K.lookup C16 = some (PySem.excClassObj nm16 qq16 C16 N16 bs16 bm16 true sn16 sub16 ab16 col16 dd16 k0_16 k1_16 k2_16 k3_16 k5_16 "ValueError.__new__"))
    (er16 : PySem.HandSPX.refsVE bm16 = true)
    (fl16 : K.lookup fI16 = some ⟨oc16, od16, .func (PySem.W.ksFn "__init__" qual16 (iA p116 p216 pd16) (iB q1_16 q2_16 q3_16 q4_16 q5_16 q6_16 q7_16 q8_16 q9_16 qa_16) iS (.ref Td16) kV16 doc16 pm16 an16 (.ref cda16) ct16 cc16), osl16⟩)
    (fc16 : PySem.W.codeIn K (.ref cda16) qual16 = true)
    (fT16 : K.lookup Td16 = some ⟨To16, Tt16, .seq #[.none] nT16, Ts16⟩)
    (fp16 : (q3_16.endLine == q5_16.line) = true)
    (fd16 : K.lookup cda16 = some ⟨ccl16, cdd16, .fields vs16, ccs16⟩)
    (fv16 : vs16[2]? = some (.str file16 tf16))
    (ff16 : (P.main.file == file16) = true)
    (fk16 : K.lookup cc16 = some ⟨cl16, cld16, .cell (some (.ref C16)), csl16⟩)
    (ec17 : K.lookup C17 = some (PySem.excClassObj nm17 qq17 C17 N17 bs17 bm17 true sn17 sub17 ab17 col17 dd17 k0_17 k1_17 k2_17 k3_17 k5_17 "ValueError.__new__"))
    (er17 : PySem.HandSPX.refsVE bm17 = true)
    (fl17 : K.lookup fI17 = some ⟨oc17, od17, .func (PySem.W.ksFn "__init__" qual17 (iA p117 p217 pd17) (iB q1_17 q2_17 q3_17 q4_17 q5_17 q6_17 q7_17 q8_17 q9_17 qa_17) iS (.ref Td17) kV17 doc17 pm17 an17 (.ref cda17) ct17 cc17), osl17⟩)
    (fc17 : PySem.W.codeIn K (.ref cda17) qual17 = true)
    (fT17 : K.lookup Td17 = some ⟨To17, Tt17, .seq #[.none] nT17, Ts17⟩)
    (fp17 : (q3_17.endLine == q5_17.line) = true)
    (fd17 : K.lookup cda17 = some ⟨ccl17, cdd17, .fields vs17, ccs17⟩)
    (fv17 : vs17[2]? = some (.str file17 tf17))
    (ff17 : (P.main.file == file17) = true)
    (fk17 : K.lookup cc17 = some ⟨cl17, cld17, .cell (some (.ref C17)), csl17⟩)
    (ec18 : K.lookup C18 = some (PySem.excClassObj nm18 qq18 C18 N18 bs18 bm18 true sn18 sub18 ab18 col18 dd18 k0_18 k1_18 k2_18 k3_18 k5_18 "ValueError.__new__"))
    (er18 : PySem.HandSPX.refsVE bm18 = true)
    (fl18 : K.lookup fI18 = some ⟨oc18, od18, .func (PySem.W.ksFn "__init__" qual18 (iA p118 p218 pd18) (iB q1_18 q2_18 q3_18 q4_18 q5_18 q6_18 q7_18 q8_18 q9_18 qa_18) iS (.ref Td18) kV18 doc18 pm18 an18 (.ref cda18) ct18 cc18), osl18⟩)
    (fc18 : PySem.W.codeIn K (.ref cda18) qual18 = true)
    (fT18 : K.lookup Td18 = some ⟨To18, Tt18, .seq #[.none] nT18, Ts18⟩)
    (fp18 : (q3_18.endLine == q5_18.line) = true)
    (fd18 : K.lookup cda18 = some ⟨ccl18, cdd18, .fields vs18, ccs18⟩)
    (fv18 : vs18[2]? = some (.str file18 tf18))
    (ff18 : (P.main.file == file18) = true)
    (fk18 : K.lookup cc18 = some ⟨cl18, cld18, .cell (some (.ref C18)), csl18⟩)
    (ec19 : K.lookup C19 = some (PySem.excClassObj nm19 qq19 C19 N19 bs19 bm19 true sn19 sub19 ab19 col19 dd19 k0_19 k1_19 k2_19 k3_19 k5_19 "ValueError.__new__"))
    (er19 : PySem.HandSPX.refsVE bm19 = true)
    (fl19 : K.lookup fI19 = some ⟨oc19, od19, .func (PySem.W.ksFn "__init__" qual19 (iA p119 p219 pd19) (iB q1_19 q2_19 q3_19 q4_19 q5_19 q6_19 q7_19 q8_19 q9_19 qa_19) iS (.ref Td19) kV19 doc19 pm19 an19 (.ref cda19) ct19 cc19), osl19⟩)
    (fc19 : PySem.W.codeIn K (.ref cda19) qual19 = true)
    (fT19 : K.lookup Td19 = some ⟨To19, Tt19, .seq #[.none] nT19, Ts19⟩)
    (fp19 : (q3_19.endLine == q5_19.line) = true)
    (fd19 : K.lookup cda19 = some ⟨ccl19, cdd19, .fields vs19, ccs19⟩)
    (fv19 : vs19[2]? = some (.str file19 tf19))
    (ff19 : (P.main.file == file19) = true)
    (fk19 : K.lookup cc19 = some ⟨cl19, cld19, .cell (some (.ref C19)), csl19⟩)
    (ec20 : K.lookup C20 = some (PySem.excClassObj nm20 qq20 C20 N20 bs20 bm20 true sn20 sub20 ab20 col20 dd20 k0_20 k1_20 k2_20 k3_20 k5_20 "ValueError.__new__"))
    (er20 : PySem.HandSPX.refsVE bm20 = true)
    (fl20 : K.lookup fI20 = some ⟨oc20, od20, .func (PySem.W.ksFn "__init__" qual20 (iA p120 p220 pd20) (iB q1_20 q2_20 q3_20 q4_20 q5_20 q6_20 q7_20 q8_20 q9_20 qa_20) iS (.ref Td20) kV20 doc20 pm20 an20 (.ref cda20) ct20 cc20), osl20⟩)
    (fc20 : PySem.W.codeIn K (.ref cda20) qual20 = true)
    (fT20 : K.lookup Td20 = some ⟨To20, Tt20, .seq #[.none] nT20, Ts20⟩)
    (fp20 : (q3_20.endLine == q5_20.line) = true)
    (fd20 : K.lookup cda20 = some ⟨ccl20, cdd20, .fields vs20, ccs20⟩)
    (fv20 : vs20[2]? = some (.str file20 tf20))
    (ff20 : (P.main.file == file20) = true)
    (fk20 : K.lookup cc20 = some ⟨cl20, cld20, .cell (some (.ref C20)), csl20⟩)
    (ec21 : K.lookup C21 = some (PySem.excClassObj nm21 qq21 C21 N21 bs21 bm21 true sn21 sub21 ab21 col21 dd21 k0_21 k1_21 k2_21 k3_21 k5_21 "ValueError.__new__"))
    (er21 : PySem.HandSPX.refsVE bm21 = true)
    (fl21 : K.lookup fI21 = some ⟨oc21, od21, .func (PySem.W.ksFn "__init__" qual21 (iA p121 p221 pd21) (iB q1_21 q2_21 q3_21 q4_21 q5_21 q6_21 q7_21 q8_21 q9_21 qa_21) iS (.ref Td21) kV21 doc21 pm21 an21 (.ref cda21) ct21 cc21), osl21⟩)
    (fc21 : PySem.W.codeIn K (.ref cda21) qual21 = true)
    (fT21 : K.lookup Td21 = some ⟨To21, Tt21, .seq #[.none] nT21, Ts21⟩)
    (fp21 : (q3_21.endLine == q5_21.line) = true)
    (fd21 : K.lookup cda21 = some ⟨ccl21, cdd21, .fields vs21, ccs21⟩)
    (fv21 : vs21[2]? = some (.str file21 tf21))
    (ff21 : (P.main.file == file21) = true)
    (fk21 : K.lookup cc21 = some ⟨cl21, cld21, .cell (some (.ref C21)), csl21⟩)
    (ec22 : K.lookup C22 = some (PySem.excClassObj nm22 qq22 C22 N22 bs22 bm22 true sn22 sub22 ab22 col22 dd22 k0_22 k1_22 k2_22 k3_22 k5_22 "ValueError.__new__"))
    (er22 : PySem.HandSPX.refsVE bm22 = true)
    (fl22 : K.lookup fI22 = some ⟨oc22, od22, .func (PySem.W.ksFn "__init__" qual22 (iA p122 p222 pd22) (iB q1_22 q2_22 q3_22 q4_22 q5_22 q6_22 q7_22 q8_22 q9_22 qa_22) iS (.ref Td22) kV22 doc22 pm22 an22 (.ref cda22) ct22 cc22), osl22⟩)
    (fc22 : PySem.W.codeIn K (.ref cda22) qual22 = true)
    (fT22 : K.lookup Td22 = some ⟨To22, Tt22, .seq #[.none] nT22, Ts22⟩)
    (fp22 : (q3_22.endLine == q5_22.line) = true)
    (fd22 : K.lookup cda22 = some ⟨ccl22, cdd22, .fields vs22, ccs22⟩)
    (fv22 : vs22[2]? = some (.str file22 tf22))
    (ff22 : (P.main.file == file22) = true)
    (fk22 : K.lookup cc22 = some ⟨cl22, cld22, .cell (some (.ref C22)), csl22⟩)
    (ec23 : K.lookup C23 = some (PySem.excClassObj nm23 qq23 C23 N23 bs23 bm23 true sn23 sub23 ab23 col23 dd23 k0_23 k1_23 k2_23 k3_23 k5_23 "ValueError.__new__"))
    (er23 : PySem.HandSPX.refsVE bm23 = true)
    (fl23 : K.lookup fI23 = some ⟨oc23, od23, .func (PySem.W.ksFn "__init__" qual23 (iA p123 p223 pd23) (iB q1_23 q2_23 q3_23 q4_23 q5_23 q6_23 q7_23 q8_23 q9_23 qa_23) iS (.ref Td23) kV23 doc23 pm23 an23 (.ref cda23) ct23 cc23), osl23⟩)
    (fc23 : PySem.W.codeIn K (.ref cda23) qual23 = true)
    (fT23 : K.lookup Td23 = some ⟨To23, Tt23, .seq #[.none] nT23, Ts23⟩)
    (fp23 : (q3_23.endLine == q5_23.line) = true)
    (fd23 : K.lookup cda23 = some ⟨ccl23, cdd23, .fields vs23, ccs23⟩)
    (fv23 : vs23[2]? = some (.str file23 tf23))
    (ff23 : (P.main.file == file23) = true)
    (fk23 : K.lookup cc23 = some ⟨cl23, cld23, .cell (some (.ref C23)), csl23⟩)
    (ec24 : K.lookup C24 = some (PySem.excClassObj nm24 qq24 C24 N24 bs24 bm24 true sn24 sub24 ab24 col24 dd24 k0_24 k1_24 k2_24 k3_24 k5_24 "ValueError.__new__"))
    (er24 : PySem.HandSPX.refsVE bm24 = true)
    (fl24 : K.lookup fI24 = some ⟨oc24, od24, .func (PySem.W.ksFn "__init__" qual24 (iA p124 p224 pd24) (iB q1_24 q2_24 q3_24 q4_24 q5_24 q6_24 q7_24 q8_24 q9_24 qa_24) iS (.ref Td24) kV24 doc24 pm24 an24 (.ref cda24) ct24 cc24), osl24⟩)
    (fc24 : PySem.W.codeIn K (.ref cda24) qual24 = true)
    (fT24 : K.lookup Td24 = some ⟨To24, Tt24, .seq #[.none] nT24, Ts24⟩)
    (fp24 : (q3_24.endLine == q5_24.line) = true)
    (fd24 : K.lookup cda24 = some ⟨ccl24, cdd24, .fields vs24, ccs24⟩)
    (fv24 : vs24[2]? = some (.str file24 tf24))
    (ff24 : (P.main.file == file24) = true)
    (fk24 : K.lookup cc24 = some ⟨cl24, cld24, .cell (some (.ref C24)), csl24⟩)
    (ec25 : K.lookup C25 = some (PySem.excClassObj nm25 qq25 C25 N25 bs25 bm25 true sn25 sub25 ab25 col25 dd25 k0_25 k1_25 k2_25 k3_25 k5_25 "ValueError.__new__"))
    (er25 : PySem.HandSPX.refsVE bm25 = true)
    (fl25 : K.lookup fI25 = some ⟨oc25, od25, .func (PySem.W.ksFn "__init__" qual25 (iA p125 p225 pd25) (iB q1_25 q2_25 q3_25 q4_25 q5_25 q6_25 q7_25 q8_25 q9_25 qa_25) iS (.ref Td25) kV25 doc25 pm25 an25 (.ref cda25) ct25 cc25), osl25⟩)
    (fc25 : PySem.W.codeIn K (.ref cda25) qual25 = true)
    (fT25 : K.lookup Td25 = some ⟨To25, Tt25, .seq #[.none] nT25, Ts25⟩)
    (fp25 : (q3_25.endLine == q5_25.line) = true)
    (fd25 : K.lookup cda25 = some ⟨ccl25, cdd25, .fields vs25, ccs25⟩)
    (fv25 : vs25[2]? = some (.str file25 tf25))
    (ff25 : (P.main.file == file25) = true)
    (fk25 : K.lookup cc25 = some ⟨cl25, cld25, .cell (some (.ref C25)), csl25⟩)
    (ec26 : K.lookup C26 = some (PySem.excClassObj nm26 qq26 C26 N26 bs26 bm26 true sn26 sub26 ab26 col26 dd26 k0_26 k1_26 k2_26 k3_26 k5_26 "ValueError.__new__"))
    (er26 : PySem.HandSPX.refsVE bm26 = true)
    (fl26 : K.lookup fI26 = some ⟨oc26, od26, .func (PySem.W.ksFn "__init__" qual26 (iA p126 p226 pd26) (iB q1_26 q2_26 q3_26 q4_26 q5_26 q6_26 q7_26 q8_26 q9_26 qa_26) iS (.ref Td26) kV26 doc26 pm26 an26 (.ref cda26) ct26 cc26), osl26⟩)
    (fc26 : PySem.W.codeIn K (.ref cda26) qual26 = true)
    (fT26 : K.lookup Td26 = some ⟨To26, Tt26, .seq #[.none] nT26, Ts26⟩)
    (fp26 : (q3_26.endLine == q5_26.line) = true)
    (fd26 : K.lookup cda26 = some ⟨ccl26, cdd26, .fields vs26, ccs26⟩)
    (fv26 : vs26[2]? = some (.str file26 tf26))
    (ff26 : (P.main.file == file26) = true)
    (fk26 : K.lookup cc26 = some ⟨cl26, cld26, .cell (some (.ref C26)), csl26⟩)
    (ec27 : K.lookup C27 = some (PySem.excClassObj nm27 qq27 C27 N27 bs27 bm27 true sn27 sub27 ab27 col27 dd27 k0_27 k1_27 k2_27 k3_27 k5_27 "ValueError.__new__"))
    (er27 : PySem.HandSPX.refsVE bm27 = true)
    (fl27 : K.lookup fI27 = some ⟨oc27, od27, .func (PySem.W.ksFn "__init__" qual27 (Pl.iA p127 p227 pd27) (Pl.iB q1_27 q2_27 q3_27 q4_27 q5_27 q6_27 q7_27 q8_27 q9_27 qa_27) Pl.iS (.ref Td27) kV27 doc27 pm27 an27 (.ref cda27) ct27 cc27), osl27⟩)
    (fc27 : PySem.W.codeIn K (.ref cda27) qual27 = true)
    (fT27 : K.lookup Td27 = some ⟨To27, Tt27, .seq #[.none] nT27, Ts27⟩)
    (fp27 : (q3_27.endLine == q5_27.line) = true)
    (fd27 : K.lookup cda27 = some ⟨ccl27, cdd27, .fields vs27, ccs27⟩)
    (fv27 : vs27[2]? = some (.str file27 tf27))
    (ff27 : (P.main.file == file27) = true)
    (fk27 : K.lookup cc27 = some ⟨cl27, cld27, .cell (some (.ref C27)), csl27⟩)
    (etop : (P.main.scope.names.lookup ("super" : Str)).isSome = false)
    : Tb P K mg (ctF C0 C1 C2 C3 C4 C5 C6 C7 C8 C9 C10 C11 C12 C13 C14 C15 C16 C17 C18 C19 C20 C21 C22 C23 C24 C25 C26 C27 C28 C29 C30) := by
  have kit : ∀ c d, c < 31 → d < 31 → PySem.W.kitOne K (.ref (ctF C0 C1 C2 C3 C4 C5 C6 C7 C8 C9 C10 C11 C12 C13 C14 C15 C16 C17 C18 C19 C20 C21 C22 C23 C24 C25 C26 C27 C28 C29 C30 c)) (.ref (ctF C0 C1 C2 C3 C4 C5 C6 C7 C8 C9 C10 C11 C12 C13 C14 C15 C16 C17 C18 C19 C20 C21 C22 C23 C24 C25 C26 C27 C28 C29 C30 d)) = some (subB c d) := fun c d hc hd => koB_at kom hc hd
  have ocl : ∀ c, ownB c = true → OwnC K (ctF C0 C1 C2 C3 C4 C5 C6 C7 C8 C9 C10 C11 C12 C13 C14 C15 C16 C17 C18 C19 C20 C21 C22 C23 C24 C25 C26 C27 C28 C29 C30 c) := fun c hc => by
    rcases isO hc with rfl
    · exact ⟨⟨opg30, ohd30, opo30, osa30⟩, oha30, xhn, xht, ohm30⟩
  refine ⟨⟨fun t ht c hc => ?_, fun c d hc hd => kit c d hc hd, fun c hc ho t ht => ?_, fun c hc ho => ocl c ho⟩, ⟨fun c hc => ?_, fun c d hc hd => kit c d (Nat.lt_of_lt_of_le (of_decide_eq_true hc) (by decide)) (Nat.lt_of_lt_of_le (of_decide_eq_true hd) (by decide)), fun c hc => veM_at vem (of_decide_eq_true hc)⟩, npl27, xpl0, kpl0, xpl29, kpl29, xpl28, kpl28, ⟨fun c hc => (ocl c hc).cl⟩, fun c hc => ?_, fun c hc => ?_, PySem.W.mg_none_of X G g_ValueError, PySem.W.mg_none_of X G g_bool, PySem.W.mg_none_of X G g_int, PySem.W.mg_none_of X G g_isinstance, PySem.W.mg_none_of X G g_len, PySem.W.mg_none_of X G g_list, PySem.W.mg_none_of X G g_max, PySem.W.mg_none_of X G g_range, PySem.W.mg_none_of X G g_str, PySem.W.mg_none_of X G g_sum, PySem.W.mg_none_of X G g_super, PySem.W.mg_none_of X G g_tuple, PySem.W.mg_none_of X G g_zip, ⟨t_MOST_MEASURE, PySem.W.mg_of X G cn_MOST_MEASURE⟩, ⟨t_MOST_PIECES, PySem.W.mg_of X G cn_MOST_PIECES⟩, ⟨t_MOST_PIECE_LETTERS, PySem.W.mg_of X G cn_MOST_PIECE_LETTERS⟩, ⟨t_MOST_UNKNOWNS, PySem.W.mg_of X G cn_MOST_UNKNOWNS⟩, ⟨t_LETTERS, PySem.W.mg_of X G cn_LETTERS⟩, PySem.W.mg_of X G aC0, PySem.W.mg_of X G aC1, PySem.W.mg_of X G aC2, PySem.W.mg_of X G aC3, PySem.W.mg_of X G aC4, PySem.W.mg_of X G aC5, PySem.W.mg_of X G aC6, PySem.W.mg_of X G aC7, PySem.W.mg_of X G aC8, PySem.W.mg_of X G aC9, PySem.W.mg_of X G aC10, PySem.W.mg_of X G aC11, PySem.W.mg_of X G aC12, PySem.W.mg_of X G aC13, PySem.W.mg_of X G aC14, PySem.W.mg_of X G aC15, PySem.W.mg_of X G aC16, PySem.W.mg_of X G aC17, PySem.W.mg_of X G aC18, PySem.W.mg_of X G aC19, PySem.W.mg_of X G aC20, PySem.W.mg_of X G aC21, PySem.W.mg_of X G aC22, PySem.W.mg_of X G aC23, PySem.W.mg_of X G aC24, PySem.W.mg_of X G aC25, PySem.W.mg_of X G aC26, PySem.W.mg_of X G aC27, PySem.W.mg_of X G aC28, PySem.W.mg_of X G aC29, PySem.W.mg_of X G aC30, ?_, ?_, ?_, ?_, ?_, ?_, ?_, ?_, ?_, ?_, ?_, ?_, ?_, ?_, ?_, ?_, ?_, ?_, ?_, ?_, ?_, ?_, ?_, ?_, ?_, ?_, ?_⟩
  · exact ktB_at ktm ht hc
  · have m : t = "NoneType" ∨ t = "bool" ∨ t = "int" ∨ t = "str" ∨ t = "tuple" ∨ t = "list" := by simpa [knownT] using ht
    rcases isO ho with rfl
    · rcases m with rfl | rfl | rfl | rfl | rfl | rfl
      · exact ot30_0
      · exact ot30_1
      · exact ot30_2
      · exact ot30_3
      · exact ot30_4
      · exact ot30_5
  · rcases ltE (of_decide_eq_true hc) with rfl | rfl | rfl | rfl | rfl | rfl | rfl | rfl | rfl | rfl | rfl | rfl | rfl | rfl | rfl | rfl | rfl | rfl | rfl | rfl | rfl | rfl | rfl | rfl | rfl | rfl | rfl | rfl | rfl | rfl
    · exact ⟨xga0, xgg0, xex0, xhd0, xcl0, xha0, xhn, xht, xhm0, xnv0⟩
    · exact ⟨xga1, xgg1, xex1, xhd1, xcl1, xha1, xhn, xht, xhm1, xnv1⟩
    · exact ⟨xga2, xgg2, xex2, xhd2, xcl2, xha2, xhn, xht, xhm2, xnv2⟩
    · exact ⟨xga3, xgg3, xex3, xhd3, xcl3, xha3, xhn, xht, xhm3, xnv3⟩
    · exact ⟨xga4, xgg4, xex4, xhd4, xcl4, xha4, xhn, xht, xhm4, xnv4⟩
    · exact ⟨xga5, xgg5, xex5, xhd5, xcl5, xha5, xhn, xht, xhm5, xnv5⟩
    · exact ⟨xga6, xgg6, xex6, xhd6, xcl6, xha6, xhn, xht, xhm6, xnv6⟩
    · exact ⟨xga7, xgg7, xex7, xhd7, xcl7, xha7, xhn, xht, xhm7, xnv7⟩
    · exact ⟨xga8, xgg8, xex8, xhd8, xcl8, xha8, xhn, xht, xhm8, xnv8⟩
    · exact ⟨xga9, xgg9, xex9, xhd9, xcl9, xha9, xhn, xht, xhm9, xnv9⟩
    · exact ⟨xga10, xgg10, xex10, xhd10, xcl10, xha10, xhn, xht, xhm10, xnv10⟩
    · exact ⟨xga11, xgg11, xex11, xhd11, xcl11, xha11, xhn, xht, xhm11, xnv11⟩
    · exact ⟨xga12, xgg12, xex12, xhd12, xcl12, xha12, xhn, xht, xhm12, xnv12⟩
    · exact ⟨xga13, xgg13, xex13, xhd13, xcl13, xha13, xhn, xht, xhm13, xnv13⟩
    · exact ⟨xga14, xgg14, xex14, xhd14, xcl14, xha14, xhn, xht, xhm14, xnv14⟩
    · exact ⟨xga15, xgg15, xex15, xhd15, xcl15, xha15, xhn, xht, xhm15, xnv15⟩
    · exact ⟨xga16, xgg16, xex16, xhd16, xcl16, xha16, xhn, xht, xhm16, xnv16⟩
    · exact ⟨xga17, xgg17, xex17, xhd17, xcl17, xha17, xhn, xht, xhm17, xnv17⟩
    · exact ⟨xga18, xgg18, xex18, xhd18, xcl18, xha18, xhn, xht, xhm18, xnv18⟩
    · exact ⟨xga19, xgg19, xex19, xhd19, xcl19, xha19, xhn, xht, xhm19, xnv19⟩
    · exact ⟨xga20, xgg20, xex20, xhd20, xcl20, xha20, xhn, xht, xhm20, xnv20⟩
    · exact ⟨xga21, xgg21, xex21, xhd21, xcl21, xha21, xhn, xht, xhm21, xnv21⟩
    · exact ⟨xga22, xgg22, xex22, xhd22, xcl22, xha22, xhn, xht, xhm22, xnv22⟩
    · exact ⟨xga23, xgg23, xex23, xhd23, xcl23, xha23, xhn, xht, xhm23, xnv23⟩
    · exact ⟨xga24, xgg24, xex24, xhd24, xcl24, xha24, xhn, xht, xhm24, xnv24⟩
    · exact ⟨xga25, xgg25, xex25, xhd25, xcl25, xha25, xhn, xht, xhm25, xnv25⟩
    · exact ⟨xga26, xgg26, xex26, xhd26, xcl26, xha26, xhn, xht, xhm26, xnv26⟩
    · exact ⟨xga27, xgg27, xex27, xhd27, xcl27, xha27, xhn, xht, xhm27, xnv27⟩
    · exact ⟨xga28, xgg28, xex28, xhd28, xcl28, xha28, xhn, xht, xhm28, xnv28⟩
    · exact ⟨xga29, xgg29, xex29, xhd29, xcl29, xha29, xhn, xht, xhm29, xnv29⟩
  · rcases isO hc with rfl
    · exact nf30__many
  · rcases isO hc with rfl
    · exact nf30__pieces
  · exact ⟨fI1, ⟨_, _, _, _, _, _, _, _, _, _, _, _, _, _, _, ec1, er1⟩, esa1, xga1, xgg1, xnv1, eiC1, etC1, ekC1, xex1, ety1, xhd1, exi1, esu1, esV1, ent, emC1, ⟨_, _, _, _, _, _, _, _, _, _, _, _, _, _, _, _, _, _, _, _, _, _, _, _, _, _, _, _, _, _, _, _, _, _, _, _, fl1, fc1, fT1, rfl, fp1, fd1, fv1, ff1, fk1⟩, etop⟩
  · exact ⟨fI2, ⟨_, _, _, _, _, _, _, _, _, _, _, _, _, _, _, ec2, er2⟩, esa2, xga2, xgg2, xnv2, eiC2, etC2, ekC2, xex2, ety2, xhd2, exi2, esu2, esV2, ent, emC2, ⟨_, _, _, _, _, _, _, _, _, _, _, _, _, _, _, _, _, _, _, _, _, _, _, _, _, _, _, _, _, _, _, _, _, _, _, _, fl2, fc2, fT2, rfl, fp2, fd2, fv2, ff2, fk2⟩, etop⟩
  · exact ⟨fI3, ⟨_, _, _, _, _, _, _, _, _, _, _, _, _, _, _, ec3, er3⟩, esa3, xga3, xgg3, xnv3, eiC3, etC3, ekC3, xex3, ety3, xhd3, exi3, esu3, esV3, ent, emC3, ⟨_, _, _, _, _, _, _, _, _, _, _, _, _, _, _, _, _, _, _, _, _, _, _, _, _, _, _, _, _, _, _, _, _, _, _, _, fl3, fc3, fT3, rfl, fp3, fd3, fv3, ff3, fk3⟩, etop⟩
  · exact ⟨fI4, ⟨_, _, _, _, _, _, _, _, _, _, _, _, _, _, _, ec4, er4⟩, esa4, xga4, xgg4, xnv4, eiC4, etC4, ekC4, xex4, ety4, xhd4, exi4, esu4, esV4, ent, emC4, ⟨_, _, _, _, _, _, _, _, _, _, _, _, _, _, _, _, _, _, _, _, _, _, _, _, _, _, _, _, _, _, _, _, _, _, _, _, fl4, fc4, fT4, rfl, fp4, fd4, fv4, ff4, fk4⟩, etop⟩
  · exact ⟨fI5, ⟨_, _, _, _, _, _, _, _, _, _, _, _, _, _, _, ec5, er5⟩, esa5, xga5, xgg5, xnv5, eiC5, etC5, ekC5, xex5, ety5, xhd5, exi5, esu5, esV5, ent, emC5, ⟨_, _, _, _, _, _, _, _, _, _, _, _, _, _, _, _, _, _, _, _, _, _, _, _, _, _, _, _, _, _, _, _, _, _, _, _, fl5, fc5, fT5, rfl, fp5, fd5, fv5, ff5, fk5⟩, etop⟩
  · exact ⟨fI6, ⟨_, _, _, _, _, _, _, _, _, _, _, _, _, _, _, ec6, er6⟩, esa6, xga6, xgg6, xnv6, eiC6, etC6, ekC6, xex6, ety6, xhd6, exi6, esu6, esV6, ent, emC6, ⟨_, _, _, _, _, _, _, _, _, _, _, _, _, _, _, _, _, _, _, _, _, _, _, _, _, _, _, _, _, _, _, _, _, _, _, _, fl6, fc6, fT6, rfl, fp6, fd6, fv6, ff6, fk6⟩, etop⟩
  · exact ⟨fI7, ⟨_, _, _, _, _, _, _, _, _, _, _, _, _, _, _, ec7, er7⟩, esa7, xga7, xgg7, xnv7, eiC7, etC7, ekC7, xex7, ety7, xhd7, exi7, esu7, esV7, ent, emC7, ⟨_, _, _, _, _, _, _, _, _, _, _, _, _, _, _, _, _, _, _, _, _, _, _, _, _, _, _, _, _, _, _, _, _, _, _, _, fl7, fc7, fT7, rfl, fp7, fd7, fv7, ff7, fk7⟩, etop⟩
  · exact ⟨fI8, ⟨_, _, _, _, _, _, _, _, _, _, _, _, _, _, _, ec8, er8⟩, esa8, xga8, xgg8, xnv8, eiC8, etC8, ekC8, xex8, ety8, xhd8, exi8, esu8, esV8, ent, emC8, ⟨_, _, _, _, _, _, _, _, _, _, _, _, _, _, _, _, _, _, _, _, _, _, _, _, _, _, _, _, _, _, _, _, _, _, _, _, fl8, fc8, fT8, rfl, fp8, fd8, fv8, ff8, fk8⟩, etop⟩
  · exact ⟨fI9, ⟨_, _, _, _, _, _, _, _, _, _, _, _, _, _, _, ec9, er9⟩, esa9, xga9, xgg9, xnv9, eiC9, etC9, ekC9, xex9, ety9, xhd9, exi9, esu9, esV9, ent, emC9, ⟨_, _, _, _, _, _, _, _, _, _, _, _, _, _, _, _, _, _, _, _, _, _, _, _, _, _, _, _, _, _, _, _, _, _, _, _, fl9, fc9, fT9, rfl, fp9, fd9, fv9, ff9, fk9⟩, etop⟩
  · exact ⟨fI10, ⟨_, _, _, _, _, _, _, _, _, _, _, _, _, _, _, ec10, er10⟩, esa10, xga10, xgg10, xnv10, eiC10, etC10, ekC10, xex10, ety10, xhd10, exi10, esu10, esV10, ent, emC10, ⟨_, _, _, _, _, _, _, _, _, _, _, _, _, _, _, _, _, _, _, _, _, _, _, _, _, _, _, _, _, _, _, _, _, _, _, _, fl10, fc10, fT10, rfl, fp10, fd10, fv10, ff10, fk10⟩, etop⟩
  · exact ⟨fI11, ⟨_, _, _, _, _, _, _, _, _, _, _, _, _, _, _, ec11, er11⟩, esa11, xga11, xgg11, xnv11, eiC11, etC11, ekC11, xex11, ety11, xhd11, exi11, esu11, esV11, ent, emC11, ⟨_, _, _, _, _, _, _, _, _, _, _, _, _, _, _, _, _, _, _, _, _, _, _, _, _, _, _, _, _, _, _, _, _, _, _, _, fl11, fc11, fT11, rfl, fp11, fd11, fv11, ff11, fk11⟩, etop⟩
  · exact ⟨fI12, ⟨_, _, _, _, _, _, _, _, _, _, _, _, _, _, _, ec12, er12⟩, esa12, xga12, xgg12, xnv12, eiC12, etC12, ekC12, xex12, ety12, xhd12, exi12, esu12, esV12, ent, emC12, ⟨_, _, _, _, _, _, _, _, _, _, _, _, _, _, _, _, _, _, _, _, _, _, _, _, _, _, _, _, _, _, _, _, _, _, _, _, fl12, fc12, fT12, rfl, fp12, fd12, fv12, ff12, fk12⟩, etop⟩
  · exact ⟨fI13, ⟨_, _, _, _, _, _, _, _, _, _, _, _, _, _, _, ec13, er13⟩, esa13, xga13, xgg13, xnv13, eiC13, etC13, ekC13, xex13, ety13, xhd13, exi13, esu13, esV13, ent, emC13, ⟨_, _, _, _, _, _, _, _, _, _, _, _, _, _, _, _, _, _, _, _, _, _, _, _, _, _, _, _, _, _, _, _, _, _, _, _, fl13, fc13, fT13, rfl, fp13, fd13, fv13, ff13, fk13⟩, etop⟩
  · exact ⟨fI14, ⟨_, _, _, _, _, _, _, _, _, _, _, _, _, _, _, ec14, er14⟩, esa14, xga14, xgg14, xnv14, eiC14, etC14, ekC14, xex14, ety14, xhd14, exi14, esu14, esV14, ent, emC14, ⟨_, _, _, _, _, _, _, _, _, _, _, _, _, _, _, _, _, _, _, _, _, _, _, _, _, _, _, _, _, _, _, _, _, _, _, _, fl14, fc14, fT14, rfl, fp14, fd14, fv14, ff14, fk14⟩, etop⟩
  · exact ⟨fI15, ⟨_, _, _, _, _, _, _, _, _, _, _, _, _, _, _, ec15, er15⟩, esa15, xga15, xgg15, xnv15, eiC15, etC15, ekC15, xex15, ety15, xhd15, exi15, esu15, esV15, ent, emC15, ⟨_, _, _, _, _, _, _, _, _, _, _, _, _, _, _, _, _, _, _, _, _, _, _, _, _, _, _, _, _, _, _, _, _, _, _, _, fl15, fc15, fT15, rfl, fp15, fd15, fv15, ff15, fk15⟩, etop⟩
  · exact ⟨fI16, ⟨_, _, _, _, _, _, _, _, _, _, _, _, _, _, _, ec16, er16⟩, esa16, xga16, xgg16, xnv16, eiC16, etC16, ekC16, xex16, ety16, xhd16, exi16, esu16, esV16, ent, emC16, ⟨_, _, _, _, _, _, _, _, _, _, _, _, _, _, _, _, _, _, _, _, _, _, _, _, _, _, _, _, _, _, _, _, _, _, _, _, fl16, fc16, fT16, rfl, fp16, fd16, fv16, ff16, fk16⟩, etop⟩
  · exact ⟨fI17, ⟨_, _, _, _, _, _, _, _, _, _, _, _, _, _, _, ec17, er17⟩, esa17, xga17, xgg17, xnv17, eiC17, etC17, ekC17, xex17, ety17, xhd17, exi17, esu17, esV17, ent, emC17, ⟨_, _, _, _, _, _, _, _, _, _, _, _, _, _, _, _, _, _, _, _, _, _, _, _, _, _, _, _, _, _, _, _, _, _, _, _, fl17, fc17, fT17, rfl, fp17, fd17, fv17, ff17, fk17⟩, etop⟩
  · exact ⟨fI18, ⟨_, _, _, _, _, _, _, _, _, _, _, _, _, _, _, ec18, er18⟩, esa18, xga18, xgg18, xnv18, eiC18, etC18, ekC18, xex18, ety18, xhd18, exi18, esu18, esV18, ent, emC18, ⟨_, _, _, _, _, _, _, _, _, _, _, _, _, _, _, _, _, _, _, _, _, _, _, _, _, _, _, _, _, _, _, _, _, _, _, _, fl18, fc18, fT18, rfl, fp18, fd18, fv18, ff18, fk18⟩, etop⟩
  · exact ⟨fI19, ⟨_, _, _, _, _, _, _, _, _, _, _, _, _, _, _, ec19, er19⟩, esa19, xga19, xgg19, xnv19, eiC19, etC19, ekC19, xex19, ety19, xhd19, exi19, esu19, esV19, ent, emC19, ⟨_, _, _, _, _, _, _, _, _, _, _, _, _, _, _, _, _, _, _, _, _, _, _, _, _, _, _, _, _, _, _, _, _, _, _, _, fl19, fc19, fT19, rfl, fp19, fd19, fv19, ff19, fk19⟩, etop⟩
  · exact ⟨fI20, ⟨_, _, _, _, _, _, _, _, _, _, _, _, _, _, _, ec20, er20⟩, esa20, xga20, xgg20, xnv20, eiC20, etC20, ekC20, xex20, ety20, xhd20, exi20, esu20, esV20, ent, emC20, ⟨_, _, _, _, _, _, _, _, _, _, _, _, _, _, _, _, _, _, _, _, _, _, _, _, _, _, _, _, _, _, _, _, _, _, _, _, fl20, fc20, fT20, rfl, fp20, fd20, fv20, ff20, fk20⟩, etop⟩
  · exact ⟨fI21, ⟨_, _, _, _, _, _, _, _, _, _, _, _, _, _, _, ec21, er21⟩, esa21, xga21, xgg21, xnv21, eiC21, etC21, ekC21, xex21, ety21, xhd21, exi21, esu21, esV21, ent, emC21, ⟨_, _, _, _, _, _, _, _, _, _, _, _, _, _, _, _, _, _, _, _, _, _, _, _, _, _, _, _, _, _, _, _, _, _, _, _, fl21, fc21, fT21, rfl, fp21, fd21, fv21, ff21, fk21⟩, etop⟩
  · exact ⟨fI22, ⟨_, _, _, _, _, _, _, _, _, _, _, _, _, _, _, ec22, er22⟩, esa22, xga22, xgg22, xnv22, eiC22, etC22, ekC22, xex22, ety22, xhd22, exi22, esu22, esV22, ent, emC22, ⟨_, _, _, _, _, _, _, _, _, _, _, _, _, _, _, _, _, _, _, _, _, _, _, _, _, _, _, _, _, _, _, _, _, _, _, _, fl22, fc22, fT22, rfl, fp22, fd22, fv22, ff22, fk22⟩, etop⟩
  · exact ⟨fI23, ⟨_, _, _, _, _, _, _, _, _, _, _, _, _, _, _, ec23, er23⟩, esa23, xga23, xgg23, xnv23, eiC23, etC23, ekC23, xex23, ety23, xhd23, exi23, esu23, esV23, ent, emC23, ⟨_, _, _, _, _, _, _, _, _, _, _, _, _, _, _, _, _, _, _, _, _, _, _, _, _, _, _, _, _, _, _, _, _, _, _, _, fl23, fc23, fT23, rfl, fp23, fd23, fv23, ff23, fk23⟩, etop⟩
  · exact ⟨fI24, ⟨_, _, _, _, _, _, _, _, _, _, _, _, _, _, _, ec24, er24⟩, esa24, xga24, xgg24, xnv24, eiC24, etC24, ekC24, xex24, ety24, xhd24, exi24, esu24, esV24, ent, emC24, ⟨_, _, _, _, _, _, _, _, _, _, _, _, _, _, _, _, _, _, _, _, _, _, _, _, _, _, _, _, _, _, _, _, _, _, _, _, fl24, fc24, fT24, rfl, fp24, fd24, fv24, ff24, fk24⟩, etop⟩
  · exact ⟨fI25, ⟨_, _, _, _, _, _, _, _, _, _, _, _, _, _, _, ec25, er25⟩, esa25, xga25, xgg25, xnv25, eiC25, etC25, ekC25, xex25, ety25, xhd25, exi25, esu25, esV25, ent, emC25, ⟨_, _, _, _, _, _, _, _, _, _, _, _, _, _, _, _, _, _, _, _, _, _, _, _, _, _, _, _, _, _, _, _, _, _, _, _, fl25, fc25, fT25, rfl, fp25, fd25, fv25, ff25, fk25⟩, etop⟩
  · exact ⟨fI26, ⟨_, _, _, _, _, _, _, _, _, _, _, _, _, _, _, ec26, er26⟩, esa26, xga26, xgg26, xnv26, eiC26, etC26, ekC26, xex26, ety26, xhd26, exi26, esu26, esV26, ent, emC26, ⟨_, _, _, _, _, _, _, _, _, _, _, _, _, _, _, _, _, _, _, _, _, _, _, _, _, _, _, _, _, _, _, _, _, _, _, _, fl26, fc26, fT26, rfl, fp26, fd26, fv26, ff26, fk26⟩, etop⟩
  · exact ⟨fI27, ⟨_, _, _, _, _, _, _, _, _, _, _, _, _, _, _, ec27, er27⟩, esa27, xga27, xgg27, npl27, eiC27, etC27, ekC27, xex27, ety27, xhd27, exi27, esu27, esV27, ent, emC27, ⟨_, _, _, _, _, _, _, _, _, _, _, _, _, _, _, _, _, _, _, _, _, _, _, _, _, _, _, _, _, _, _, _, _, _, _, _, fl27, fc27, fT27, rfl, fp27, fd27, fv27, ff27, fk27⟩, etop⟩
theorem nf_mk {K : PySem.W.Frag} {C : Addr} (h0 : PySem.W.notFirst K C (.type "NoneType") = true) (h1 : PySem.W.notFirst K C (.type "bool") = true) (h2 : PySem.W.notFirst K C (.type "int") = true) (h3 : PySem.W.notFirst K C (.type "str") = true) (h4 : PySem.W.notFirst K C (.type "tuple") = true) (h5 : PySem.W.notFirst K C (.type "list") = true) : ∀ t ∈ knownT, PySem.W.notFirst K C (.type t) = true := fun t ht => by
  have m : t = "NoneType" ∨ t = "bool" ∨ t = "int" ∨ t = "str" ∨ t = "tuple" ∨ t = "list" := by simpa [knownT] using ht
  rcases m with rfl | rfl | rfl | rfl | rfl | rfl
  · exact h0
  · exact h1
  · exact h2
  · exact h3
  · exact h4
  · exact h5
end FL

set_option Elab.async false
set_option linter.all false
open PySem PySem.W PyProof.Rows in
set_option maxRecDepth 100000 in
set_option maxHeartbeats 0 in
theorem PySem.Challenge.cw_openloops_k08_errors_by_their_classes_holds : PySem.Challenge.rw_openloops_k08_errors_by_their_classes.Holds := by
  w_on; o_law; k_head; (case hw => w_witness2)
  k_fill
  refine FL.walk_go (j := 10) (n := 63) (p := "_law_script") (l := PySem.Challenge.rw_openloops_k08_errors_by_their_classes) rfl (by decide) rfl ⟨⟨rfl, by decide, by decide⟩, rfl⟩ (fun w h Y => PySem.W.kIn_of Y) FL.law_ok ?F
  case F =>
    intro w mg fa h KX G hmg
    refine' FL.law_fin KX G (FL.tb_mk KX G ?aC0 ?aC1 ?aC2 ?aC3 ?aC4 ?aC5 ?aC6 ?aC7 ?aC8 ?aC9 ?aC10 ?aC11 ?aC12 ?aC13 ?aC14 ?aC15 ?aC16 ?aC17 ?aC18 ?aC19 ?aC20 ?aC21 ?aC22 ?aC23 ?aC24 ?aC25 ?aC26 ?aC27 ?aC28 ?aC29 ?aC30 ?cn_MOST_MEASURE ?cn_MOST_PIECES ?cn_MOST_PIECE_LETTERS ?cn_MOST_UNKNOWNS ?cn_LETTERS ?g_ValueError ?g_bool ?g_int ?g_isinstance ?g_len ?g_list ?g_max ?g_range ?g_str ?g_sum ?g_super ?g_tuple ?g_zip ?kom ?ktm ?vem ?npl27 ?xpl0 ?kpl0 ?xpl28 ?kpl28 ?xpl29 ?kpl29 ?xhn ?xht ?xga0 ?xgg0 ?xex0 ?xhd0 ?xcl0 ?xha0 ?xhm0 ?xnv0 ?xga1 ?xgg1 ?xex1 ?xhd1 ?xcl1 ?xha1 ?xhm1 ?xnv1 ?xga2 ?xgg2 ?xex2 ?xhd2 ?xcl2 ?xha2 ?xhm2 ?xnv2 ?xga3 ?xgg3 ?xex3 ?xhd3 ?xcl3 ?xha3 ?xhm3 ?xnv3 ?xga4 ?xgg4 ?xex4 ?xhd4 ?xcl4 ?xha4 ?xhm4 ?xnv4 ?xga5 ?xgg5 ?xex5 ?xhd5 ?xcl5 ?xha5 ?xhm5 ?xnv5 ?xga6 ?xgg6 ?xex6 ?xhd6 ?xcl6 ?xha6 ?xhm6 ?xnv6 ?xga7 ?xgg7 ?xex7 ?xhd7 ?xcl7 ?xha7 ?xhm7 ?xnv7 ?xga8 ?xgg8 ?xex8 ?xhd8 ?xcl8 ?xha8 ?xhm8 ?xnv8 ?xga9 ?xgg9 ?xex9 ?xhd9 ?xcl9 ?xha9 ?xhm9 ?xnv9 ?xga10 ?xgg10 ?xex10 ?xhd10 ?xcl10 ?xha10 ?xhm10 ?xnv10 ?xga11 ?xgg11 ?xex11 ?xhd11 ?xcl11 ?xha11 ?xhm11 ?xnv11 ?xga12 ?xgg12 ?xex12 ?xhd12 ?xcl12 ?xha12 ?xhm12 ?xnv12 ?xga13 ?xgg13 ?xex13 ?xhd13 ?xcl13 ?xha13 ?xhm13 ?xnv13 ?xga14 ?xgg14 ?xex14 ?xhd14 ?xcl14 ?xha14 ?xhm14 ?xnv14 ?xga15 ?xgg15 ?xex15 ?xhd15 ?xcl15 ?xha15 ?xhm15 ?xnv15 ?xga16 ?xgg16 ?xex16 ?xhd16 ?xcl16 ?xha16 ?xhm16 ?xnv16 ?xga17 ?xgg17 ?xex17 ?xhd17 ?xcl17 ?xha17 ?xhm17 ?xnv17 ?xga18 ?xgg18 ?xex18 ?xhd18 ?xcl18 ?xha18 ?xhm18 ?xnv18 ?xga19 ?xgg19 ?xex19 ?xhd19 ?xcl19 ?xha19 ?xhm19 ?xnv19 ?xga20 ?xgg20 ?xex20 ?xhd20 ?xcl20 ?xha20 ?xhm20 ?xnv20 ?xga21 ?xgg21 ?xex21 ?xhd21 ?xcl21 ?xha21 ?xhm21 ?xnv21 ?xga22 ?xgg22 ?xex22 ?xhd22 ?xcl22 ?xha22 ?xhm22 ?xnv22 ?xga23 ?xgg23 ?xex23 ?xhd23 ?xcl23 ?xha23 ?xhm23 ?xnv23 ?xga24 ?xgg24 ?xex24 ?xhd24 ?xcl24 ?xha24 ?xhm24 ?xnv24 ?xga25 ?xgg25 ?xex25 ?xhd25 ?xcl25 ?xha25 ?xhm25 ?xnv25 ?xga26 ?xgg26 ?xex26 ?xhd26 ?xcl26 ?xha26 ?xhm26 ?xnv26 ?xga27 ?xgg27 ?xex27 ?xhd27 ?xcl27 ?xha27 ?xhm27 ?xnv27 ?xga28 ?xgg28 ?xex28 ?xhd28 ?xcl28 ?xha28 ?xhm28 ?xnv28 ?xga29 ?xgg29 ?xex29 ?xhd29 ?xcl29 ?xha29 ?xhm29 ?xnv29 ?opg30 ?ohd30 ?opo30 ?osa30 ?oha30 ?ohm30 ?ot30_0 ?ot30_1 ?ot30_2 ?ot30_3 ?ot30_4 ?ot30_5 ?nf30__many ?nf30__pieces ?ent ?esa1 ?eiC1 ?etC1 ?ekC1 ?ety1 ?exi1 ?esu1 ?esV1 ?emC1 ?esa2 ?eiC2 ?etC2 ?ekC2 ?ety2 ?exi2 ?esu2 ?esV2 ?emC2 ?esa3 ?eiC3 ?etC3 ?ekC3 ?ety3 ?exi3 ?esu3 ?esV3 ?emC3 ?esa4 ?eiC4 ?etC4 ?ekC4 ?ety4 ?exi4 ?esu4 ?esV4 ?emC4 ?esa5 ?eiC5 ?etC5 ?ekC5 ?ety5 ?exi5 ?esu5 ?esV5 ?emC5 ?esa6 ?eiC6 ?etC6 ?ekC6 ?ety6 ?exi6 ?esu6 ?esV6 ?emC6 ?esa7 ?eiC7 ?etC7 ?ekC7 ?ety7 ?exi7 ?esu7 ?esV7 ?emC7 ?esa8 ?eiC8 ?etC8 ?ekC8 ?ety8 ?exi8 ?esu8 ?esV8 ?emC8 ?esa9 ?eiC9 ?etC9 ?ekC9 ?ety9 ?exi9 ?esu9 ?esV9 ?emC9 ?esa10 ?eiC10 ?etC10 ?ekC10 ?ety10 ?exi10 ?esu10 ?esV10 ?emC10 ?esa11 ?eiC11 ?etC11 ?ekC11 ?ety11 ?exi11 ?esu11 ?esV11 ?emC11 ?esa12 ?eiC12 ?etC12 ?ekC12 ?ety12 ?exi12 ?esu12 ?esV12 ?emC12 ?esa13 ?eiC13 ?etC13 ?ekC13 ?ety13 ?exi13 ?esu13 ?esV13 ?emC13 ?esa14 ?eiC14 ?etC14 ?ekC14 ?ety14 ?exi14 ?esu14 ?esV14 ?emC14 ?esa15 ?eiC15 ?etC15 ?ekC15 ?ety15 ?exi15 ?esu15 ?esV15 ?emC15 ?esa16 ?eiC16 ?etC16 ?ekC16 ?ety16 ?exi16 ?esu16 ?esV16 ?emC16 ?esa17 ?eiC17 ?etC17 ?ekC17 ?ety17 ?exi17 ?esu17 ?esV17 ?emC17 ?esa18 ?eiC18 ?etC18 ?ekC18 ?ety18 ?exi18 ?esu18 ?esV18 ?emC18 ?esa19 ?eiC19 ?etC19 ?ekC19 ?ety19 ?exi19 ?esu19 ?esV19 ?emC19 ?esa20 ?eiC20 ?etC20 ?ekC20 ?ety20 ?exi20 ?esu20 ?esV20 ?emC20 ?esa21 ?eiC21 ?etC21 ?ekC21 ?ety21 ?exi21 ?esu21 ?esV21 ?emC21 ?esa22 ?eiC22 ?etC22 ?ekC22 ?ety22 ?exi22 ?esu22 ?esV22 ?emC22 ?esa23 ?eiC23 ?etC23 ?ekC23 ?ety23 ?exi23 ?esu23 ?esV23 ?emC23 ?esa24 ?eiC24 ?etC24 ?ekC24 ?ety24 ?exi24 ?esu24 ?esV24 ?emC24 ?esa25 ?eiC25 ?etC25 ?ekC25 ?ety25 ?exi25 ?esu25 ?esV25 ?emC25 ?esa26 ?eiC26 ?etC26 ?ekC26 ?ety26 ?exi26 ?esu26 ?esV26 ?emC26 ?esa27 ?eiC27 ?etC27 ?ekC27 ?ety27 ?exi27 ?esu27 ?esV27 ?emC27 ?ec1 ?er1 ?fl1 ?fc1 ?fT1 ?fp1 ?fd1 ?fv1 ?ff1 ?fk1 ?ec2 ?er2 ?fl2 ?fc2 ?fT2 ?fp2 ?fd2 ?fv2 ?ff2 ?fk2 ?ec3 ?er3 ?fl3 ?fc3 ?fT3 ?fp3 ?fd3 ?fv3 ?ff3 ?fk3 ?ec4 ?er4 ?fl4 ?fc4 ?fT4 ?fp4 ?fd4 ?fv4 ?ff4 ?fk4 ?ec5 ?er5 ?fl5 ?fc5 ?fT5 ?fp5 ?fd5 ?fv5 ?ff5 ?fk5 ?ec6 ?er6 ?fl6 ?fc6 ?fT6 ?fp6 ?fd6 ?fv6 ?ff6 ?fk6 ?ec7 ?er7 ?fl7 ?fc7 ?fT7 ?fp7 ?fd7 ?fv7 ?ff7 ?fk7 ?ec8 ?er8 ?fl8 ?fc8 ?fT8 ?fp8 ?fd8 ?fv8 ?ff8 ?fk8 ?ec9 ?er9 ?fl9 ?fc9 ?fT9 ?fp9 ?fd9 ?fv9 ?ff9 ?fk9 ?ec10 ?er10 ?fl10 ?fc10 ?fT10 ?fp10 ?fd10 ?fv10 ?ff10 ?fk10 ?ec11 ?er11 ?fl11 ?fc11 ?fT11 ?fp11 ?fd11 ?fv11 ?ff11 ?fk11 ?ec12 ?er12 ?fl12 ?fc12 ?fT12 ?fp12 ?fd12 ?fv12 ?ff12 ?fk12 ?ec13 ?er13 ?fl13 ?fc13 ?fT13 ?fp13 ?fd13 ?fv13 ?ff13 ?fk13 ?ec14 ?er14 ?fl14 ?fc14 ?fT14 ?fp14 ?fd14 ?fv14 ?ff14 ?fk14 ?ec15 ?er15 ?fl15 ?fc15 ?fT15 ?fp15 ?fd15 ?fv15 ?ff15 ?fk15 ?ec16 ?er16 ?fl16 ?fc16 ?fT16 ?fp16 ?fd16 ?fv16 ?ff16 ?fk16 ?ec17 ?er17 ?fl17 ?fc17 ?fT17 ?fp17 ?fd17 ?fv17 ?ff17 ?fk17 ?ec18 ?er18 ?fl18 ?fc18 ?fT18 ?fp18 ?fd18 ?fv18 ?ff18 ?fk18 ?ec19 ?er19 ?fl19 ?fc19 ?fT19 ?fp19 ?fd19 ?fv19 ?ff19 ?fk19 ?ec20 ?er20 ?fl20 ?fc20 ?fT20 ?fp20 ?fd20 ?fv20 ?ff20 ?fk20 ?ec21 ?er21 ?fl21 ?fc21 ?fT21 ?fp21 ?fd21 ?fv21 ?ff21 ?fk21 ?ec22 ?er22 ?fl22 ?fc22 ?fT22 ?fp22 ?fd22 ?fv22 ?ff22 ?fk22 ?ec23 ?er23 ?fl23 ?fc23 ?fT23 ?fp23 ?fd23 ?fv23 ?ff23 ?fk23 ?ec24 ?er24 ?fl24 ?fc24 ?fT24 ?fp24 ?fd24 ?fv24 ?ff24 ?fk24 ?ec25 ?er25 ?fl25 ?fc25 ?fT25 ?fp25 ?fd25 ?fv25 ?ff25 ?fk25 ?ec26 ?er26 ?fl26 ?fc26 ?fT26 ?fp26 ?fd26 ?fv26 ?ff26 ?fk26 ?ec27 ?er27 ?fl27 ?fc27 ?fT27 ?fp27 ?fd27 ?fv27 ?ff27 ?fk27 ?etop) hmg ?mk_OpenText ?kp_OpenText (FL.nf_mk ?nn0_OpenText ?nn1_OpenText ?nn2_OpenText ?nn3_OpenText ?nn4_OpenText ?nn5_OpenText) (FL.fnF ?dis_whole_a ?dis_whole_l ?dis_whole_c ?dis_whole_k) (FL.fnF ?dis_between_a ?dis_between_l ?dis_between_c ?dis_between_k) (FL.fnF ?dare_counts_a ?dare_counts_l ?dare_counts_c ?dare_counts_k) (FL.fnF ?dis_letters_a ?dis_letters_l ?dis_letters_c ?dis_letters_k) (FL.fnF ?dis_form_for_a ?dis_form_for_l ?dis_form_for_c ?dis_form_for_k) (FL.fnF ?dcheck_number_a ?dcheck_number_l ?dcheck_number_c ?dcheck_number_k) (FL.fnF ?dcheck_many_a ?dcheck_many_l ?dcheck_many_c ?dcheck_many_k) (FL.fnF ?dplain_a ?dplain_l ?dplain_c ?dplain_k) (FL.fnF ?dis_open_form_a ?dis_open_form_l ?dis_open_form_c ?dis_open_form_k) (FL.fnF ?dform_sum_a ?dform_sum_l ?dform_sum_c ?dform_sum_k) (FL.fnF ?dform_times_a ?dform_times_l ?dform_times_c ?dform_times_k) (FL.fnF ?dborders_a ?dborders_l ?dborders_c ?dborders_k) (FL.fnF ?droot_of_a ?droot_of_l ?droot_of_c ?droot_of_k) (FL.fnF ?dturned_word_a ?dturned_word_l ?dturned_word_c ?dturned_word_k) (FL.fnF ?drow_from_a ?drow_from_l ?drow_from_c ?drow_from_k) (FL.fnF ?dstart_of_a ?dstart_of_l ?dstart_of_c ?dstart_of_k) (FL.fnF ?dend_of_row_a ?dend_of_row_l ?dend_of_row_c ?dend_of_row_k) (FL.fnF ?dis_piece_a ?dis_piece_l ?dis_piece_c ?dis_piece_k) (FL.fnF ?dmeasure_a ?dmeasure_l ?dmeasure_c ?dmeasure_k) (FL.fnF ?dcheck_pieces_a ?dcheck_pieces_l ?dcheck_pieces_c ?dcheck_pieces_k) (FL.fnF ?dpush_word_a ?dpush_word_l ?dpush_word_c ?dpush_word_k) (FL.fnF ?dpush_power_a ?dpush_power_l ?dpush_power_c ?dpush_power_k) (FL.fnF ?dnormal_pieces_a ?dnormal_pieces_l ?dnormal_pieces_c ?dnormal_pieces_k) (FL.meF ?dOpenText___init___a ?dOpenText___init___t ?dOpenText___init___l ?dOpenText___init___c ?dOpenText___init___k) (FL.meF ?dOpenText___eq___a ?dOpenText___eq___t ?dOpenText___eq___l ?dOpenText___eq___c ?dOpenText___eq___k) (FL.fnF ?d_law_hash_a ?d_law_hash_l ?d_law_hash_c ?d_law_hash_k) (FL.fnF ?d_law_generator_a ?d_law_generator_l ?d_law_generator_c ?d_law_generator_k) (FL.fnF ?d_law_random_a ?d_law_random_l ?d_law_random_c ?d_law_random_k) (FL.fnF ?d_law_first_a ?d_law_first_l ?d_law_first_c ?d_law_first_k) (FL.fnF ?d_law_second_a ?d_law_second_l ?d_law_second_c ?d_law_second_k) (FL.fnF ?d_law_third_a ?d_law_third_l ?d_law_third_c ?d_law_third_k) (FL.fnF ?d_law_fourth_a ?d_law_fourth_l ?d_law_fourth_c ?d_law_fourth_k) (FL.fnF ?d_law_kinds_a ?d_law_kinds_l ?d_law_kinds_c ?d_law_kinds_k) (FL.fnF ?d_law_empty_a ?d_law_empty_l ?d_law_empty_c ?d_law_empty_k) (FL.fnF ?d_law_named_a ?d_law_named_l ?d_law_named_c ?d_law_named_k) (FL.fnF ?d_law_value_a ?d_law_value_l ?d_law_value_c ?d_law_value_k) (FL.fnF ?d_law_made_a ?d_law_made_l ?d_law_made_c ?d_law_made_k) (FL.fnF ?dlaw_a ?dlaw_l ?dlaw_c ?dlaw_k)
    (case aC0 => first | k_is | kernel_rfl | exact rfl)
    (case aC1 => first | k_is | kernel_rfl | exact rfl)
    (case aC2 => first | k_is | kernel_rfl | exact rfl)
    (case aC3 => first | k_is | kernel_rfl | exact rfl)
    (case aC4 => first | k_is | kernel_rfl | exact rfl)
    (case aC5 => first | k_is | kernel_rfl | exact rfl)
    (case aC6 => first | k_is | kernel_rfl | exact rfl)
    (case aC7 => first | k_is | kernel_rfl | exact rfl)
    (case aC8 => first | k_is | kernel_rfl | exact rfl)
    (case aC9 => first | k_is | kernel_rfl | exact rfl)
    (case aC10 => first | k_is | kernel_rfl | exact rfl)
    (case aC11 => first | k_is | kernel_rfl | exact rfl)
    (case aC12 => first | k_is | kernel_rfl | exact rfl)
    (case aC13 => first | k_is | kernel_rfl | exact rfl)
    (case aC14 => first | k_is | kernel_rfl | exact rfl)
    (case aC15 => first | k_is | kernel_rfl | exact rfl)
    (case aC16 => first | k_is | kernel_rfl | exact rfl)
    (case aC17 => first | k_is | kernel_rfl | exact rfl)
    (case aC18 => first | k_is | kernel_rfl | exact rfl)
    (case aC19 => first | k_is | kernel_rfl | exact rfl)
    (case aC20 => first | k_is | kernel_rfl | exact rfl)
    (case aC21 => first | k_is | kernel_rfl | exact rfl)
    (case aC22 => first | k_is | kernel_rfl | exact rfl)
    (case aC23 => first | k_is | kernel_rfl | exact rfl)
    (case aC24 => first | k_is | kernel_rfl | exact rfl)
    (case aC25 => first | k_is | kernel_rfl | exact rfl)
    (case aC26 => first | k_is | kernel_rfl | exact rfl)
    (case aC27 => first | k_is | kernel_rfl | exact rfl)
    (case aC28 => first | k_is | kernel_rfl | exact rfl)
    (case aC29 => first | k_is | kernel_rfl | exact rfl)
    (case aC30 => first | k_is | kernel_rfl | exact rfl)
    (case cn_MOST_MEASURE => first | k_is | kernel_rfl | exact rfl)
    (case cn_MOST_PIECES => first | k_is | kernel_rfl | exact rfl)
    (case cn_MOST_PIECE_LETTERS => first | k_is | kernel_rfl | exact rfl)
    (case cn_MOST_UNKNOWNS => first | k_is | kernel_rfl | exact rfl)
    (case cn_LETTERS => first | k_is | kernel_rfl | exact rfl)
    (case g_ValueError => first | k_is | kernel_rfl | exact rfl)
    (case g_bool => first | k_is | kernel_rfl | exact rfl)
    (case g_int => first | k_is | kernel_rfl | exact rfl)
    (case g_isinstance => first | k_is | kernel_rfl | exact rfl)
    (case g_len => first | k_is | kernel_rfl | exact rfl)
    (case g_list => first | k_is | kernel_rfl | exact rfl)
    (case g_max => first | k_is | kernel_rfl | exact rfl)
    (case g_range => first | k_is | kernel_rfl | exact rfl)
    (case g_str => first | k_is | kernel_rfl | exact rfl)
    (case g_sum => first | k_is | kernel_rfl | exact rfl)
    (case g_super => first | k_is | kernel_rfl | exact rfl)
    (case g_tuple => first | k_is | kernel_rfl | exact rfl)
    (case g_zip => first | k_is | kernel_rfl | exact rfl)
    (case kom => kernel_rfl)
    (case ktm => kernel_rfl)
    (case vem => kernel_rfl)
    (case npl27 => first | k_is | kernel_rfl | exact rfl)
    (case xpl0 => first | k_is | kernel_rfl | exact rfl)
    (case kpl0 => first | k_is | kernel_rfl | exact rfl)
    (case xpl28 => first | k_is | kernel_rfl | exact rfl)
    (case kpl28 => first | k_is | kernel_rfl | exact rfl)
    (case xpl29 => first | k_is | kernel_rfl | exact rfl)
    (case kpl29 => first | k_is | kernel_rfl | exact rfl)
    (case xhn => first | k_is | kernel_rfl | exact rfl)
    (case xht => first | k_is | kernel_rfl | exact rfl)
    (case xga0 => first | k_is | kernel_rfl | exact rfl)
    (case xgg0 => first | k_is | kernel_rfl | exact rfl)
    (case xex0 => first | k_is | kernel_rfl | exact rfl)
    (case xhd0 => first | k_is | kernel_rfl | exact rfl)
    (case xcl0 => first | k_is | kernel_rfl | exact rfl)
    (case xha0 => first | k_is | kernel_rfl | exact rfl)
    (case xhm0 => first | k_is | kernel_rfl | exact rfl)
    (case xnv0 => first | k_is | kernel_rfl | exact rfl)
    (case xga1 => first | k_is | kernel_rfl | exact rfl)
    (case xgg1 => first | k_is | kernel_rfl | exact rfl)
    (case xex1 => first | k_is | kernel_rfl | exact rfl)
    (case xhd1 => first | k_is | kernel_rfl | exact rfl)
    (case xcl1 => first | k_is | kernel_rfl | exact rfl)
    (case xha1 => first | k_is | kernel_rfl | exact rfl)
    (case xhm1 => first | k_is | kernel_rfl | exact rfl)
    (case xnv1 => first | k_is | kernel_rfl | exact rfl)
    (case xga2 => first | k_is | kernel_rfl | exact rfl)
    (case xgg2 => first | k_is | kernel_rfl | exact rfl)
    (case xex2 => first | k_is | kernel_rfl | exact rfl)
    (case xhd2 => first | k_is | kernel_rfl | exact rfl)
    (case xcl2 => first | k_is | kernel_rfl | exact rfl)
    (case xha2 => first | k_is | kernel_rfl | exact rfl)
    (case xhm2 => first | k_is | kernel_rfl | exact rfl)
    (case xnv2 => first | k_is | kernel_rfl | exact rfl)
    (case xga3 => first | k_is | kernel_rfl | exact rfl)
    (case xgg3 => first | k_is | kernel_rfl | exact rfl)
    (case xex3 => first | k_is | kernel_rfl | exact rfl)
    (case xhd3 => first | k_is | kernel_rfl | exact rfl)
    (case xcl3 => first | k_is | kernel_rfl | exact rfl)
    (case xha3 => first | k_is | kernel_rfl | exact rfl)
    (case xhm3 => first | k_is | kernel_rfl | exact rfl)
    (case xnv3 => first | k_is | kernel_rfl | exact rfl)
    (case xga4 => first | k_is | kernel_rfl | exact rfl)
    (case xgg4 => first | k_is | kernel_rfl | exact rfl)
    (case xex4 => first | k_is | kernel_rfl | exact rfl)
    (case xhd4 => first | k_is | kernel_rfl | exact rfl)
    (case xcl4 => first | k_is | kernel_rfl | exact rfl)
    (case xha4 => first | k_is | kernel_rfl | exact rfl)
    (case xhm4 => first | k_is | kernel_rfl | exact rfl)
    (case xnv4 => first | k_is | kernel_rfl | exact rfl)
    (case xga5 => first | k_is | kernel_rfl | exact rfl)
    (case xgg5 => first | k_is | kernel_rfl | exact rfl)
    (case xex5 => first | k_is | kernel_rfl | exact rfl)
    (case xhd5 => first | k_is | kernel_rfl | exact rfl)
    (case xcl5 => first | k_is | kernel_rfl | exact rfl)
    (case xha5 => first | k_is | kernel_rfl | exact rfl)
    (case xhm5 => first | k_is | kernel_rfl | exact rfl)
    (case xnv5 => first | k_is | kernel_rfl | exact rfl)
    (case xga6 => first | k_is | kernel_rfl | exact rfl)
    (case xgg6 => first | k_is | kernel_rfl | exact rfl)
    (case xex6 => first | k_is | kernel_rfl | exact rfl)
    (case xhd6 => first | k_is | kernel_rfl | exact rfl)
    (case xcl6 => first | k_is | kernel_rfl | exact rfl)
    (case xha6 => first | k_is | kernel_rfl | exact rfl)
    (case xhm6 => first | k_is | kernel_rfl | exact rfl)
    (case xnv6 => first | k_is | kernel_rfl | exact rfl)
    (case xga7 => first | k_is | kernel_rfl | exact rfl)
    (case xgg7 => first | k_is | kernel_rfl | exact rfl)
    (case xex7 => first | k_is | kernel_rfl | exact rfl)
    (case xhd7 => first | k_is | kernel_rfl | exact rfl)
    (case xcl7 => first | k_is | kernel_rfl | exact rfl)
    (case xha7 => first | k_is | kernel_rfl | exact rfl)
    (case xhm7 => first | k_is | kernel_rfl | exact rfl)
    (case xnv7 => first | k_is | kernel_rfl | exact rfl)
    (case xga8 => first | k_is | kernel_rfl | exact rfl)
    (case xgg8 => first | k_is | kernel_rfl | exact rfl)
    (case xex8 => first | k_is | kernel_rfl | exact rfl)
    (case xhd8 => first | k_is | kernel_rfl | exact rfl)
    (case xcl8 => first | k_is | kernel_rfl | exact rfl)
    (case xha8 => first | k_is | kernel_rfl | exact rfl)
    (case xhm8 => first | k_is | kernel_rfl | exact rfl)
    (case xnv8 => first | k_is | kernel_rfl | exact rfl)
    (case xga9 => first | k_is | kernel_rfl | exact rfl)
    (case xgg9 => first | k_is | kernel_rfl | exact rfl)
    (case xex9 => first | k_is | kernel_rfl | exact rfl)
    (case xhd9 => first | k_is | kernel_rfl | exact rfl)
    (case xcl9 => first | k_is | kernel_rfl | exact rfl)
    (case xha9 => first | k_is | kernel_rfl | exact rfl)
    (case xhm9 => first | k_is | kernel_rfl | exact rfl)
    (case xnv9 => first | k_is | kernel_rfl | exact rfl)
    (case xga10 => first | k_is | kernel_rfl | exact rfl)
    (case xgg10 => first | k_is | kernel_rfl | exact rfl)
    (case xex10 => first | k_is | kernel_rfl | exact rfl)
    (case xhd10 => first | k_is | kernel_rfl | exact rfl)
    (case xcl10 => first | k_is | kernel_rfl | exact rfl)
    (case xha10 => first | k_is | kernel_rfl | exact rfl)
    (case xhm10 => first | k_is | kernel_rfl | exact rfl)
    (case xnv10 => first | k_is | kernel_rfl | exact rfl)
    (case xga11 => first | k_is | kernel_rfl | exact rfl)
    (case xgg11 => first | k_is | kernel_rfl | exact rfl)
    (case xex11 => first | k_is | kernel_rfl | exact rfl)
    (case xhd11 => first | k_is | kernel_rfl | exact rfl)
    (case xcl11 => first | k_is | kernel_rfl | exact rfl)
    (case xha11 => first | k_is | kernel_rfl | exact rfl)
    (case xhm11 => first | k_is | kernel_rfl | exact rfl)
    (case xnv11 => first | k_is | kernel_rfl | exact rfl)
    (case xga12 => first | k_is | kernel_rfl | exact rfl)
    (case xgg12 => first | k_is | kernel_rfl | exact rfl)
    (case xex12 => first | k_is | kernel_rfl | exact rfl)
    (case xhd12 => first | k_is | kernel_rfl | exact rfl)
    (case xcl12 => first | k_is | kernel_rfl | exact rfl)
    (case xha12 => first | k_is | kernel_rfl | exact rfl)
    (case xhm12 => first | k_is | kernel_rfl | exact rfl)
    (case xnv12 => first | k_is | kernel_rfl | exact rfl)
    (case xga13 => first | k_is | kernel_rfl | exact rfl)
    (case xgg13 => first | k_is | kernel_rfl | exact rfl)
    (case xex13 => first | k_is | kernel_rfl | exact rfl)
    (case xhd13 => first | k_is | kernel_rfl | exact rfl)
    (case xcl13 => first | k_is | kernel_rfl | exact rfl)
    (case xha13 => first | k_is | kernel_rfl | exact rfl)
    (case xhm13 => first | k_is | kernel_rfl | exact rfl)
    (case xnv13 => first | k_is | kernel_rfl | exact rfl)
    (case xga14 => first | k_is | kernel_rfl | exact rfl)
    (case xgg14 => first | k_is | kernel_rfl | exact rfl)
    (case xex14 => first | k_is | kernel_rfl | exact rfl)
    (case xhd14 => first | k_is | kernel_rfl | exact rfl)
    (case xcl14 => first | k_is | kernel_rfl | exact rfl)
    (case xha14 => first | k_is | kernel_rfl | exact rfl)
    (case xhm14 => first | k_is | kernel_rfl | exact rfl)
    (case xnv14 => first | k_is | kernel_rfl | exact rfl)
    (case xga15 => first | k_is | kernel_rfl | exact rfl)
    (case xgg15 => first | k_is | kernel_rfl | exact rfl)
    (case xex15 => first | k_is | kernel_rfl | exact rfl)
    (case xhd15 => first | k_is | kernel_rfl | exact rfl)
    (case xcl15 => first | k_is | kernel_rfl | exact rfl)
    (case xha15 => first | k_is | kernel_rfl | exact rfl)
    (case xhm15 => first | k_is | kernel_rfl | exact rfl)
    (case xnv15 => first | k_is | kernel_rfl | exact rfl)
    (case xga16 => first | k_is | kernel_rfl | exact rfl)
    (case xgg16 => first | k_is | kernel_rfl | exact rfl)
    (case xex16 => first | k_is | kernel_rfl | exact rfl)
    (case xhd16 => first | k_is | kernel_rfl | exact rfl)
    (case xcl16 => first | k_is | kernel_rfl | exact rfl)
    (case xha16 => first | k_is | kernel_rfl | exact rfl)
    (case xhm16 => first | k_is | kernel_rfl | exact rfl)
    (case xnv16 => first | k_is | kernel_rfl | exact rfl)
    (case xga17 => first | k_is | kernel_rfl | exact rfl)
    (case xgg17 => first | k_is | kernel_rfl | exact rfl)
    (case xex17 => first | k_is | kernel_rfl | exact rfl)
    (case xhd17 => first | k_is | kernel_rfl | exact rfl)
    (case xcl17 => first | k_is | kernel_rfl | exact rfl)
    (case xha17 => first | k_is | kernel_rfl | exact rfl)
    (case xhm17 => first | k_is | kernel_rfl | exact rfl)
    (case xnv17 => first | k_is | kernel_rfl | exact rfl)
    (case xga18 => first | k_is | kernel_rfl | exact rfl)
    (case xgg18 => first | k_is | kernel_rfl | exact rfl)
    (case xex18 => first | k_is | kernel_rfl | exact rfl)
    (case xhd18 => first | k_is | kernel_rfl | exact rfl)
    (case xcl18 => first | k_is | kernel_rfl | exact rfl)
    (case xha18 => first | k_is | kernel_rfl | exact rfl)
    (case xhm18 => first | k_is | kernel_rfl | exact rfl)
    (case xnv18 => first | k_is | kernel_rfl | exact rfl)
    (case xga19 => first | k_is | kernel_rfl | exact rfl)
    (case xgg19 => first | k_is | kernel_rfl | exact rfl)
    (case xex19 => first | k_is | kernel_rfl | exact rfl)
    (case xhd19 => first | k_is | kernel_rfl | exact rfl)
    (case xcl19 => first | k_is | kernel_rfl | exact rfl)
    (case xha19 => first | k_is | kernel_rfl | exact rfl)
    (case xhm19 => first | k_is | kernel_rfl | exact rfl)
    (case xnv19 => first | k_is | kernel_rfl | exact rfl)
    (case xga20 => first | k_is | kernel_rfl | exact rfl)
    (case xgg20 => first | k_is | kernel_rfl | exact rfl)
    (case xex20 => first | k_is | kernel_rfl | exact rfl)
    (case xhd20 => first | k_is | kernel_rfl | exact rfl)
    (case xcl20 => first | k_is | kernel_rfl | exact rfl)
    (case xha20 => first | k_is | kernel_rfl | exact rfl)
    (case xhm20 => first | k_is | kernel_rfl | exact rfl)
    (case xnv20 => first | k_is | kernel_rfl | exact rfl)
    (case xga21 => first | k_is | kernel_rfl | exact rfl)
    (case xgg21 => first | k_is | kernel_rfl | exact rfl)
    (case xex21 => first | k_is | kernel_rfl | exact rfl)
    (case xhd21 => first | k_is | kernel_rfl | exact rfl)
    (case xcl21 => first | k_is | kernel_rfl | exact rfl)
    (case xha21 => first | k_is | kernel_rfl | exact rfl)
    (case xhm21 => first | k_is | kernel_rfl | exact rfl)
    (case xnv21 => first | k_is | kernel_rfl | exact rfl)
    (case xga22 => first | k_is | kernel_rfl | exact rfl)
    (case xgg22 => first | k_is | kernel_rfl | exact rfl)
    (case xex22 => first | k_is | kernel_rfl | exact rfl)
    (case xhd22 => first | k_is | kernel_rfl | exact rfl)
    (case xcl22 => first | k_is | kernel_rfl | exact rfl)
    (case xha22 => first | k_is | kernel_rfl | exact rfl)
    (case xhm22 => first | k_is | kernel_rfl | exact rfl)
    (case xnv22 => first | k_is | kernel_rfl | exact rfl)
    (case xga23 => first | k_is | kernel_rfl | exact rfl)
    (case xgg23 => first | k_is | kernel_rfl | exact rfl)
    (case xex23 => first | k_is | kernel_rfl | exact rfl)
    (case xhd23 => first | k_is | kernel_rfl | exact rfl)
    (case xcl23 => first | k_is | kernel_rfl | exact rfl)
    (case xha23 => first | k_is | kernel_rfl | exact rfl)
    (case xhm23 => first | k_is | kernel_rfl | exact rfl)
    (case xnv23 => first | k_is | kernel_rfl | exact rfl)
    (case xga24 => first | k_is | kernel_rfl | exact rfl)
    (case xgg24 => first | k_is | kernel_rfl | exact rfl)
    (case xex24 => first | k_is | kernel_rfl | exact rfl)
    (case xhd24 => first | k_is | kernel_rfl | exact rfl)
    (case xcl24 => first | k_is | kernel_rfl | exact rfl)
    (case xha24 => first | k_is | kernel_rfl | exact rfl)
    (case xhm24 => first | k_is | kernel_rfl | exact rfl)
    (case xnv24 => first | k_is | kernel_rfl | exact rfl)
    (case xga25 => first | k_is | kernel_rfl | exact rfl)
    (case xgg25 => first | k_is | kernel_rfl | exact rfl)
    (case xex25 => first | k_is | kernel_rfl | exact rfl)
    (case xhd25 => first | k_is | kernel_rfl | exact rfl)
    (case xcl25 => first | k_is | kernel_rfl | exact rfl)
    (case xha25 => first | k_is | kernel_rfl | exact rfl)
    (case xhm25 => first | k_is | kernel_rfl | exact rfl)
    (case xnv25 => first | k_is | kernel_rfl | exact rfl)
    (case xga26 => first | k_is | kernel_rfl | exact rfl)
    (case xgg26 => first | k_is | kernel_rfl | exact rfl)
    (case xex26 => first | k_is | kernel_rfl | exact rfl)
    (case xhd26 => first | k_is | kernel_rfl | exact rfl)
    (case xcl26 => first | k_is | kernel_rfl | exact rfl)
    (case xha26 => first | k_is | kernel_rfl | exact rfl)
    (case xhm26 => first | k_is | kernel_rfl | exact rfl)
    (case xnv26 => first | k_is | kernel_rfl | exact rfl)
    (case xga27 => first | k_is | kernel_rfl | exact rfl)
    (case xgg27 => first | k_is | kernel_rfl | exact rfl)
    (case xex27 => first | k_is | kernel_rfl | exact rfl)
    (case xhd27 => first | k_is | kernel_rfl | exact rfl)
    (case xcl27 => first | k_is | kernel_rfl | exact rfl)
    (case xha27 => first | k_is | kernel_rfl | exact rfl)
    (case xhm27 => first | k_is | kernel_rfl | exact rfl)
    (case xnv27 => first | k_is | kernel_rfl | exact rfl)
    (case xga28 => first | k_is | kernel_rfl | exact rfl)
    (case xgg28 => first | k_is | kernel_rfl | exact rfl)
    (case xex28 => first | k_is | kernel_rfl | exact rfl)
    (case xhd28 => first | k_is | kernel_rfl | exact rfl)
    (case xcl28 => first | k_is | kernel_rfl | exact rfl)
    (case xha28 => first | k_is | kernel_rfl | exact rfl)
    (case xhm28 => first | k_is | kernel_rfl | exact rfl)
    (case xnv28 => first | k_is | kernel_rfl | exact rfl)
    (case xga29 => first | k_is | kernel_rfl | exact rfl)
    (case xgg29 => first | k_is | kernel_rfl | exact rfl)
    (case xex29 => first | k_is | kernel_rfl | exact rfl)
    (case xhd29 => first | k_is | kernel_rfl | exact rfl)
    (case xcl29 => first | k_is | kernel_rfl | exact rfl)
    (case xha29 => first | k_is | kernel_rfl | exact rfl)
    (case xhm29 => first | k_is | kernel_rfl | exact rfl)
    (case xnv29 => first | k_is | kernel_rfl | exact rfl)
    (case opg30 => first | k_is | kernel_rfl | exact rfl)
    (case ohd30 => first | k_is | kernel_rfl | exact rfl)
    (case opo30 => first | k_is | kernel_rfl | exact rfl)
    (case osa30 => first | k_is | kernel_rfl | exact rfl)
    (case oha30 => first | k_is | kernel_rfl | exact rfl)
    (case ohm30 => first | k_is | kernel_rfl | exact rfl)
    (case ot30_0 => first | k_is | kernel_rfl | exact rfl)
    (case ot30_1 => first | k_is | kernel_rfl | exact rfl)
    (case ot30_2 => first | k_is | kernel_rfl | exact rfl)
    (case ot30_3 => first | k_is | kernel_rfl | exact rfl)
    (case ot30_4 => first | k_is | kernel_rfl | exact rfl)
    (case ot30_5 => first | k_is | kernel_rfl | exact rfl)
    (case nf30__many => first | k_is | kernel_rfl | exact rfl)
    (case nf30__pieces => first | k_is | kernel_rfl | exact rfl)
    (case ent => first | k_is | kernel_rfl | exact rfl)
    (case esa1 => first | k_is | kernel_rfl | exact rfl)
    (case eiC1 => first | k_is | kernel_rfl | exact rfl)
    (case etC1 => first | k_is | kernel_rfl | exact rfl)
    (case ekC1 => first | k_is | kernel_rfl | exact rfl)
    (case ety1 => first | k_is | kernel_rfl | exact rfl)
    (case exi1 => first | k_is | kernel_rfl | exact rfl)
    (case esu1 => first | k_is | kernel_rfl | exact rfl)
    (case esV1 => first | k_is | kernel_rfl | exact rfl)
    (case emC1 => first | k_is | kernel_rfl | exact rfl)
    (case esa2 => first | k_is | kernel_rfl | exact rfl)
    (case eiC2 => first | k_is | kernel_rfl | exact rfl)
    (case etC2 => first | k_is | kernel_rfl | exact rfl)
    (case ekC2 => first | k_is | kernel_rfl | exact rfl)
    (case ety2 => first | k_is | kernel_rfl | exact rfl)
    (case exi2 => first | k_is | kernel_rfl | exact rfl)
    (case esu2 => first | k_is | kernel_rfl | exact rfl)
    (case esV2 => first | k_is | kernel_rfl | exact rfl)
    (case emC2 => first | k_is | kernel_rfl | exact rfl)
    (case esa3 => first | k_is | kernel_rfl | exact rfl)
    (case eiC3 => first | k_is | kernel_rfl | exact rfl)
    (case etC3 => first | k_is | kernel_rfl | exact rfl)
    (case ekC3 => first | k_is | kernel_rfl | exact rfl)
    (case ety3 => first | k_is | kernel_rfl | exact rfl)
    (case exi3 => first | k_is | kernel_rfl | exact rfl)
    (case esu3 => first | k_is | kernel_rfl | exact rfl)
    (case esV3 => first | k_is | kernel_rfl | exact rfl)
    (case emC3 => first | k_is | kernel_rfl | exact rfl)
    (case esa4 => first | k_is | kernel_rfl | exact rfl)
    (case eiC4 => first | k_is | kernel_rfl | exact rfl)
    (case etC4 => first | k_is | kernel_rfl | exact rfl)
    (case ekC4 => first | k_is | kernel_rfl | exact rfl)
    (case ety4 => first | k_is | kernel_rfl | exact rfl)
    (case exi4 => first | k_is | kernel_rfl | exact rfl)
    (case esu4 => first | k_is | kernel_rfl | exact rfl)
    (case esV4 => first | k_is | kernel_rfl | exact rfl)
    (case emC4 => first | k_is | kernel_rfl | exact rfl)
    (case esa5 => first | k_is | kernel_rfl | exact rfl)
    (case eiC5 => first | k_is | kernel_rfl | exact rfl)
    (case etC5 => first | k_is | kernel_rfl | exact rfl)
    (case ekC5 => first | k_is | kernel_rfl | exact rfl)
    (case ety5 => first | k_is | kernel_rfl | exact rfl)
    (case exi5 => first | k_is | kernel_rfl | exact rfl)
    (case esu5 => first | k_is | kernel_rfl | exact rfl)
    (case esV5 => first | k_is | kernel_rfl | exact rfl)
    (case emC5 => first | k_is | kernel_rfl | exact rfl)
    (case esa6 => first | k_is | kernel_rfl | exact rfl)
    (case eiC6 => first | k_is | kernel_rfl | exact rfl)
    (case etC6 => first | k_is | kernel_rfl | exact rfl)
    (case ekC6 => first | k_is | kernel_rfl | exact rfl)
    (case ety6 => first | k_is | kernel_rfl | exact rfl)
    (case exi6 => first | k_is | kernel_rfl | exact rfl)
    (case esu6 => first | k_is | kernel_rfl | exact rfl)
    (case esV6 => first | k_is | kernel_rfl | exact rfl)
    (case emC6 => first | k_is | kernel_rfl | exact rfl)
    (case esa7 => first | k_is | kernel_rfl | exact rfl)
    (case eiC7 => first | k_is | kernel_rfl | exact rfl)
    (case etC7 => first | k_is | kernel_rfl | exact rfl)
    (case ekC7 => first | k_is | kernel_rfl | exact rfl)
    (case ety7 => first | k_is | kernel_rfl | exact rfl)
    (case exi7 => first | k_is | kernel_rfl | exact rfl)
    (case esu7 => first | k_is | kernel_rfl | exact rfl)
    (case esV7 => first | k_is | kernel_rfl | exact rfl)
    (case emC7 => first | k_is | kernel_rfl | exact rfl)
    (case esa8 => first | k_is | kernel_rfl | exact rfl)
    (case eiC8 => first | k_is | kernel_rfl | exact rfl)
    (case etC8 => first | k_is | kernel_rfl | exact rfl)
    (case ekC8 => first | k_is | kernel_rfl | exact rfl)
    (case ety8 => first | k_is | kernel_rfl | exact rfl)
    (case exi8 => first | k_is | kernel_rfl | exact rfl)
    (case esu8 => first | k_is | kernel_rfl | exact rfl)
    (case esV8 => first | k_is | kernel_rfl | exact rfl)
    (case emC8 => first | k_is | kernel_rfl | exact rfl)
    (case esa9 => first | k_is | kernel_rfl | exact rfl)
    (case eiC9 => first | k_is | kernel_rfl | exact rfl)
    (case etC9 => first | k_is | kernel_rfl | exact rfl)
    (case ekC9 => first | k_is | kernel_rfl | exact rfl)
    (case ety9 => first | k_is | kernel_rfl | exact rfl)
    (case exi9 => first | k_is | kernel_rfl | exact rfl)
    (case esu9 => first | k_is | kernel_rfl | exact rfl)
    (case esV9 => first | k_is | kernel_rfl | exact rfl)
    (case emC9 => first | k_is | kernel_rfl | exact rfl)
    (case esa10 => first | k_is | kernel_rfl | exact rfl)
    (case eiC10 => first | k_is | kernel_rfl | exact rfl)
    (case etC10 => first | k_is | kernel_rfl | exact rfl)
    (case ekC10 => first | k_is | kernel_rfl | exact rfl)
    (case ety10 => first | k_is | kernel_rfl | exact rfl)
    (case exi10 => first | k_is | kernel_rfl | exact rfl)
    (case esu10 => first | k_is | kernel_rfl | exact rfl)
    (case esV10 => first | k_is | kernel_rfl | exact rfl)
    (case emC10 => first | k_is | kernel_rfl | exact rfl)
    (case esa11 => first | k_is | kernel_rfl | exact rfl)
    (case eiC11 => first | k_is | kernel_rfl | exact rfl)
    (case etC11 => first | k_is | kernel_rfl | exact rfl)
    (case ekC11 => first | k_is | kernel_rfl | exact rfl)
    (case ety11 => first | k_is | kernel_rfl | exact rfl)
    (case exi11 => first | k_is | kernel_rfl | exact rfl)
    (case esu11 => first | k_is | kernel_rfl | exact rfl)
    (case esV11 => first | k_is | kernel_rfl | exact rfl)
    (case emC11 => first | k_is | kernel_rfl | exact rfl)
    (case esa12 => first | k_is | kernel_rfl | exact rfl)
    (case eiC12 => first | k_is | kernel_rfl | exact rfl)
    (case etC12 => first | k_is | kernel_rfl | exact rfl)
    (case ekC12 => first | k_is | kernel_rfl | exact rfl)
    (case ety12 => first | k_is | kernel_rfl | exact rfl)
    (case exi12 => first | k_is | kernel_rfl | exact rfl)
    (case esu12 => first | k_is | kernel_rfl | exact rfl)
    (case esV12 => first | k_is | kernel_rfl | exact rfl)
    (case emC12 => first | k_is | kernel_rfl | exact rfl)
    (case esa13 => first | k_is | kernel_rfl | exact rfl)
    (case eiC13 => first | k_is | kernel_rfl | exact rfl)
    (case etC13 => first | k_is | kernel_rfl | exact rfl)
    (case ekC13 => first | k_is | kernel_rfl | exact rfl)
    (case ety13 => first | k_is | kernel_rfl | exact rfl)
    (case exi13 => first | k_is | kernel_rfl | exact rfl)
    (case esu13 => first | k_is | kernel_rfl | exact rfl)
    (case esV13 => first | k_is | kernel_rfl | exact rfl)
    (case emC13 => first | k_is | kernel_rfl | exact rfl)
    (case esa14 => first | k_is | kernel_rfl | exact rfl)
    (case eiC14 => first | k_is | kernel_rfl | exact rfl)
    (case etC14 => first | k_is | kernel_rfl | exact rfl)
    (case ekC14 => first | k_is | kernel_rfl | exact rfl)
    (case ety14 => first | k_is | kernel_rfl | exact rfl)
    (case exi14 => first | k_is | kernel_rfl | exact rfl)
    (case esu14 => first | k_is | kernel_rfl | exact rfl)
    (case esV14 => first | k_is | kernel_rfl | exact rfl)
    (case emC14 => first | k_is | kernel_rfl | exact rfl)
    (case esa15 => first | k_is | kernel_rfl | exact rfl)
    (case eiC15 => first | k_is | kernel_rfl | exact rfl)
    (case etC15 => first | k_is | kernel_rfl | exact rfl)
    (case ekC15 => first | k_is | kernel_rfl | exact rfl)
    (case ety15 => first | k_is | kernel_rfl | exact rfl)
    (case exi15 => first | k_is | kernel_rfl | exact rfl)
    (case esu15 => first | k_is | kernel_rfl | exact rfl)
    (case esV15 => first | k_is | kernel_rfl | exact rfl)
    (case emC15 => first | k_is | kernel_rfl | exact rfl)
    (case esa16 => first | k_is | kernel_rfl | exact rfl)
    (case eiC16 => first | k_is | kernel_rfl | exact rfl)
    (case etC16 => first | k_is | kernel_rfl | exact rfl)
    (case ekC16 => first | k_is | kernel_rfl | exact rfl)
    (case ety16 => first | k_is | kernel_rfl | exact rfl)
    (case exi16 => first | k_is | kernel_rfl | exact rfl)
    (case esu16 => first | k_is | kernel_rfl | exact rfl)
    (case esV16 => first | k_is | kernel_rfl | exact rfl)
    (case emC16 => first | k_is | kernel_rfl | exact rfl)
    (case esa17 => first | k_is | kernel_rfl | exact rfl)
    (case eiC17 => first | k_is | kernel_rfl | exact rfl)
    (case etC17 => first | k_is | kernel_rfl | exact rfl)
    (case ekC17 => first | k_is | kernel_rfl | exact rfl)
    (case ety17 => first | k_is | kernel_rfl | exact rfl)
    (case exi17 => first | k_is | kernel_rfl | exact rfl)
    (case esu17 => first | k_is | kernel_rfl | exact rfl)
    (case esV17 => first | k_is | kernel_rfl | exact rfl)
    (case emC17 => first | k_is | kernel_rfl | exact rfl)
    (case esa18 => first | k_is | kernel_rfl | exact rfl)
    (case eiC18 => first | k_is | kernel_rfl | exact rfl)
    (case etC18 => first | k_is | kernel_rfl | exact rfl)
    (case ekC18 => first | k_is | kernel_rfl | exact rfl)
    (case ety18 => first | k_is | kernel_rfl | exact rfl)
    (case exi18 => first | k_is | kernel_rfl | exact rfl)
    (case esu18 => first | k_is | kernel_rfl | exact rfl)
    (case esV18 => first | k_is | kernel_rfl | exact rfl)
    (case emC18 => first | k_is | kernel_rfl | exact rfl)
    (case esa19 => first | k_is | kernel_rfl | exact rfl)
    (case eiC19 => first | k_is | kernel_rfl | exact rfl)
    (case etC19 => first | k_is | kernel_rfl | exact rfl)
    (case ekC19 => first | k_is | kernel_rfl | exact rfl)
    (case ety19 => first | k_is | kernel_rfl | exact rfl)
    (case exi19 => first | k_is | kernel_rfl | exact rfl)
    (case esu19 => first | k_is | kernel_rfl | exact rfl)
    (case esV19 => first | k_is | kernel_rfl | exact rfl)
    (case emC19 => first | k_is | kernel_rfl | exact rfl)
    (case esa20 => first | k_is | kernel_rfl | exact rfl)
    (case eiC20 => first | k_is | kernel_rfl | exact rfl)
    (case etC20 => first | k_is | kernel_rfl | exact rfl)
    (case ekC20 => first | k_is | kernel_rfl | exact rfl)
    (case ety20 => first | k_is | kernel_rfl | exact rfl)
    (case exi20 => first | k_is | kernel_rfl | exact rfl)
    (case esu20 => first | k_is | kernel_rfl | exact rfl)
    (case esV20 => first | k_is | kernel_rfl | exact rfl)
    (case emC20 => first | k_is | kernel_rfl | exact rfl)
    (case esa21 => first | k_is | kernel_rfl | exact rfl)
    (case eiC21 => first | k_is | kernel_rfl | exact rfl)
    (case etC21 => first | k_is | kernel_rfl | exact rfl)
    (case ekC21 => first | k_is | kernel_rfl | exact rfl)
    (case ety21 => first | k_is | kernel_rfl | exact rfl)
    (case exi21 => first | k_is | kernel_rfl | exact rfl)
    (case esu21 => first | k_is | kernel_rfl | exact rfl)
    (case esV21 => first | k_is | kernel_rfl | exact rfl)
    (case emC21 => first | k_is | kernel_rfl | exact rfl)
    (case esa22 => first | k_is | kernel_rfl | exact rfl)
    (case eiC22 => first | k_is | kernel_rfl | exact rfl)
    (case etC22 => first | k_is | kernel_rfl | exact rfl)
    (case ekC22 => first | k_is | kernel_rfl | exact rfl)
    (case ety22 => first | k_is | kernel_rfl | exact rfl)
    (case exi22 => first | k_is | kernel_rfl | exact rfl)
    (case esu22 => first | k_is | kernel_rfl | exact rfl)
    (case esV22 => first | k_is | kernel_rfl | exact rfl)
    (case emC22 => first | k_is | kernel_rfl | exact rfl)
    (case esa23 => first | k_is | kernel_rfl | exact rfl)
    (case eiC23 => first | k_is | kernel_rfl | exact rfl)
    (case etC23 => first | k_is | kernel_rfl | exact rfl)
    (case ekC23 => first | k_is | kernel_rfl | exact rfl)
    (case ety23 => first | k_is | kernel_rfl | exact rfl)
    (case exi23 => first | k_is | kernel_rfl | exact rfl)
    (case esu23 => first | k_is | kernel_rfl | exact rfl)
    (case esV23 => first | k_is | kernel_rfl | exact rfl)
    (case emC23 => first | k_is | kernel_rfl | exact rfl)
    (case esa24 => first | k_is | kernel_rfl | exact rfl)
    (case eiC24 => first | k_is | kernel_rfl | exact rfl)
    (case etC24 => first | k_is | kernel_rfl | exact rfl)
    (case ekC24 => first | k_is | kernel_rfl | exact rfl)
    (case ety24 => first | k_is | kernel_rfl | exact rfl)
    (case exi24 => first | k_is | kernel_rfl | exact rfl)
    (case esu24 => first | k_is | kernel_rfl | exact rfl)
    (case esV24 => first | k_is | kernel_rfl | exact rfl)
    (case emC24 => first | k_is | kernel_rfl | exact rfl)
    (case esa25 => first | k_is | kernel_rfl | exact rfl)
    (case eiC25 => first | k_is | kernel_rfl | exact rfl)
    (case etC25 => first | k_is | kernel_rfl | exact rfl)
    (case ekC25 => first | k_is | kernel_rfl | exact rfl)
    (case ety25 => first | k_is | kernel_rfl | exact rfl)
    (case exi25 => first | k_is | kernel_rfl | exact rfl)
    (case esu25 => first | k_is | kernel_rfl | exact rfl)
    (case esV25 => first | k_is | kernel_rfl | exact rfl)
    (case emC25 => first | k_is | kernel_rfl | exact rfl)
    (case esa26 => first | k_is | kernel_rfl | exact rfl)
    (case eiC26 => first | k_is | kernel_rfl | exact rfl)
    (case etC26 => first | k_is | kernel_rfl | exact rfl)
    (case ekC26 => first | k_is | kernel_rfl | exact rfl)
    (case ety26 => first | k_is | kernel_rfl | exact rfl)
    (case exi26 => first | k_is | kernel_rfl | exact rfl)
    (case esu26 => first | k_is | kernel_rfl | exact rfl)
    (case esV26 => first | k_is | kernel_rfl | exact rfl)
    (case emC26 => first | k_is | kernel_rfl | exact rfl)
    (case esa27 => first | k_is | kernel_rfl | exact rfl)
    (case eiC27 => first | k_is | kernel_rfl | exact rfl)
    (case etC27 => first | k_is | kernel_rfl | exact rfl)
    (case ekC27 => first | k_is | kernel_rfl | exact rfl)
    (case ety27 => first | k_is | kernel_rfl | exact rfl)
    (case exi27 => first | k_is | kernel_rfl | exact rfl)
    (case esu27 => first | k_is | kernel_rfl | exact rfl)
    (case esV27 => first | k_is | kernel_rfl | exact rfl)
    (case emC27 => first | k_is | kernel_rfl | exact rfl)
    (case ec1 => first | k_is | kernel_rfl | exact rfl)
    (case er1 => first | k_is | kernel_rfl | exact rfl)
    (case fl1 => first | k_is | kernel_rfl | exact rfl)
    (case fc1 => first | k_is | kernel_rfl | exact rfl)
    (case fT1 => first | k_is | kernel_rfl | exact rfl)
    (case fp1 => first | k_is | kernel_rfl | exact rfl)
    (case fd1 => first | k_is | kernel_rfl | exact rfl)
    (case fv1 => exact rfl)
    (case ff1 => first | k_is | kernel_rfl | exact rfl)
    (case fk1 => first | k_is | kernel_rfl | exact rfl)
    (case ec2 => first | k_is | kernel_rfl | exact rfl)
    (case er2 => first | k_is | kernel_rfl | exact rfl)
    (case fl2 => first | k_is | kernel_rfl | exact rfl)
    (case fc2 => first | k_is | kernel_rfl | exact rfl)
    (case fT2 => first | k_is | kernel_rfl | exact rfl)
    (case fp2 => first | k_is | kernel_rfl | exact rfl)
    (case fd2 => first | k_is | kernel_rfl | exact rfl)
    (case fv2 => exact rfl)
    (case ff2 => first | k_is | kernel_rfl | exact rfl)
    (case fk2 => first | k_is | kernel_rfl | exact rfl)
    (case ec3 => first | k_is | kernel_rfl | exact rfl)
    (case er3 => first | k_is | kernel_rfl | exact rfl)
    (case fl3 => first | k_is | kernel_rfl | exact rfl)
    (case fc3 => first | k_is | kernel_rfl | exact rfl)
    (case fT3 => first | k_is | kernel_rfl | exact rfl)
    (case fp3 => first | k_is | kernel_rfl | exact rfl)
    (case fd3 => first | k_is | kernel_rfl | exact rfl)
    (case fv3 => exact rfl)
    (case ff3 => first | k_is | kernel_rfl | exact rfl)
    (case fk3 => first | k_is | kernel_rfl | exact rfl)
    (case ec4 => first | k_is | kernel_rfl | exact rfl)
    (case er4 => first | k_is | kernel_rfl | exact rfl)
    (case fl4 => first | k_is | kernel_rfl | exact rfl)
    (case fc4 => first | k_is | kernel_rfl | exact rfl)
    (case fT4 => first | k_is | kernel_rfl | exact rfl)
    (case fp4 => first | k_is | kernel_rfl | exact rfl)
    (case fd4 => first | k_is | kernel_rfl | exact rfl)
    (case fv4 => exact rfl)
    (case ff4 => first | k_is | kernel_rfl | exact rfl)
    (case fk4 => first | k_is | kernel_rfl | exact rfl)
    (case ec5 => first | k_is | kernel_rfl | exact rfl)
    (case er5 => first | k_is | kernel_rfl | exact rfl)
    (case fl5 => first | k_is | kernel_rfl | exact rfl)
    (case fc5 => first | k_is | kernel_rfl | exact rfl)
    (case fT5 => first | k_is | kernel_rfl | exact rfl)
    (case fp5 => first | k_is | kernel_rfl | exact rfl)
    (case fd5 => first | k_is | kernel_rfl | exact rfl)
    (case fv5 => exact rfl)
    (case ff5 => first | k_is | kernel_rfl | exact rfl)
    (case fk5 => first | k_is | kernel_rfl | exact rfl)
    (case ec6 => first | k_is | kernel_rfl | exact rfl)
    (case er6 => first | k_is | kernel_rfl | exact rfl)
    (case fl6 => first | k_is | kernel_rfl | exact rfl)
    (case fc6 => first | k_is | kernel_rfl | exact rfl)
    (case fT6 => first | k_is | kernel_rfl | exact rfl)
    (case fp6 => first | k_is | kernel_rfl | exact rfl)
    (case fd6 => first | k_is | kernel_rfl | exact rfl)
    (case fv6 => exact rfl)
    (case ff6 => first | k_is | kernel_rfl | exact rfl)
    (case fk6 => first | k_is | kernel_rfl | exact rfl)
    (case ec7 => first | k_is | kernel_rfl | exact rfl)
    (case er7 => first | k_is | kernel_rfl | exact rfl)
    (case fl7 => first | k_is | kernel_rfl | exact rfl)
    (case fc7 => first | k_is | kernel_rfl | exact rfl)
    (case fT7 => first | k_is | kernel_rfl | exact rfl)
    (case fp7 => first | k_is | kernel_rfl | exact rfl)
    (case fd7 => first | k_is | kernel_rfl | exact rfl)
    (case fv7 => exact rfl)
    (case ff7 => first | k_is | kernel_rfl | exact rfl)
    (case fk7 => first | k_is | kernel_rfl | exact rfl)
    (case ec8 => first | k_is | kernel_rfl | exact rfl)
    (case er8 => first | k_is | kernel_rfl | exact rfl)
    (case fl8 => first | k_is | kernel_rfl | exact rfl)
    (case fc8 => first | k_is | kernel_rfl | exact rfl)
    (case fT8 => first | k_is | kernel_rfl | exact rfl)
    (case fp8 => first | k_is | kernel_rfl | exact rfl)
    (case fd8 => first | k_is | kernel_rfl | exact rfl)
    (case fv8 => exact rfl)
    (case ff8 => first | k_is | kernel_rfl | exact rfl)
    (case fk8 => first | k_is | kernel_rfl | exact rfl)
    (case ec9 => first | k_is | kernel_rfl | exact rfl)
    (case er9 => first | k_is | kernel_rfl | exact rfl)
    (case fl9 => first | k_is | kernel_rfl | exact rfl)
    (case fc9 => first | k_is | kernel_rfl | exact rfl)
    (case fT9 => first | k_is | kernel_rfl | exact rfl)
    (case fp9 => first | k_is | kernel_rfl | exact rfl)
    (case fd9 => first | k_is | kernel_rfl | exact rfl)
    (case fv9 => exact rfl)
    (case ff9 => first | k_is | kernel_rfl | exact rfl)
    (case fk9 => first | k_is | kernel_rfl | exact rfl)
    (case ec10 => first | k_is | kernel_rfl | exact rfl)
    (case er10 => first | k_is | kernel_rfl | exact rfl)
    (case fl10 => first | k_is | kernel_rfl | exact rfl)
    (case fc10 => first | k_is | kernel_rfl | exact rfl)
    (case fT10 => first | k_is | kernel_rfl | exact rfl)
    (case fp10 => first | k_is | kernel_rfl | exact rfl)
    (case fd10 => first | k_is | kernel_rfl | exact rfl)
    (case fv10 => exact rfl)
    (case ff10 => first | k_is | kernel_rfl | exact rfl)
    (case fk10 => first | k_is | kernel_rfl | exact rfl)
    (case ec11 => first | k_is | kernel_rfl | exact rfl)
    (case er11 => first | k_is | kernel_rfl | exact rfl)
    (case fl11 => first | k_is | kernel_rfl | exact rfl)
    (case fc11 => first | k_is | kernel_rfl | exact rfl)
    (case fT11 => first | k_is | kernel_rfl | exact rfl)
    (case fp11 => first | k_is | kernel_rfl | exact rfl)
    (case fd11 => first | k_is | kernel_rfl | exact rfl)
    (case fv11 => exact rfl)
    (case ff11 => first | k_is | kernel_rfl | exact rfl)
    (case fk11 => first | k_is | kernel_rfl | exact rfl)
    (case ec12 => first | k_is | kernel_rfl | exact rfl)
    (case er12 => first | k_is | kernel_rfl | exact rfl)
    (case fl12 => first | k_is | kernel_rfl | exact rfl)
    (case fc12 => first | k_is | kernel_rfl | exact rfl)
    (case fT12 => first | k_is | kernel_rfl | exact rfl)
    (case fp12 => first | k_is | kernel_rfl | exact rfl)
    (case fd12 => first | k_is | kernel_rfl | exact rfl)
    (case fv12 => exact rfl)
    (case ff12 => first | k_is | kernel_rfl | exact rfl)
    (case fk12 => first | k_is | kernel_rfl | exact rfl)
    (case ec13 => first | k_is | kernel_rfl | exact rfl)
    (case er13 => first | k_is | kernel_rfl | exact rfl)
    (case fl13 => first | k_is | kernel_rfl | exact rfl)
    (case fc13 => first | k_is | kernel_rfl | exact rfl)
    (case fT13 => first | k_is | kernel_rfl | exact rfl)
    (case fp13 => first | k_is | kernel_rfl | exact rfl)
    (case fd13 => first | k_is | kernel_rfl | exact rfl)
    (case fv13 => exact rfl)
    (case ff13 => first | k_is | kernel_rfl | exact rfl)
    (case fk13 => first | k_is | kernel_rfl | exact rfl)
    (case ec14 => first | k_is | kernel_rfl | exact rfl)
    (case er14 => first | k_is | kernel_rfl | exact rfl)
    (case fl14 => first | k_is | kernel_rfl | exact rfl)
    (case fc14 => first | k_is | kernel_rfl | exact rfl)
    (case fT14 => first | k_is | kernel_rfl | exact rfl)
    (case fp14 => first | k_is | kernel_rfl | exact rfl)
    (case fd14 => first | k_is | kernel_rfl | exact rfl)
    (case fv14 => exact rfl)
    (case ff14 => first | k_is | kernel_rfl | exact rfl)
    (case fk14 => first | k_is | kernel_rfl | exact rfl)
    (case ec15 => first | k_is | kernel_rfl | exact rfl)
    (case er15 => first | k_is | kernel_rfl | exact rfl)
    (case fl15 => first | k_is | kernel_rfl | exact rfl)
    (case fc15 => first | k_is | kernel_rfl | exact rfl)
    (case fT15 => first | k_is | kernel_rfl | exact rfl)
    (case fp15 => first | k_is | kernel_rfl | exact rfl)
    (case fd15 => first | k_is | kernel_rfl | exact rfl)
    (case fv15 => exact rfl)
    (case ff15 => first | k_is | kernel_rfl | exact rfl)
    (case fk15 => first | k_is | kernel_rfl | exact rfl)
    (case ec16 => first | k_is | kernel_rfl | exact rfl)
    (case er16 => first | k_is | kernel_rfl | exact rfl)
    (case fl16 => first | k_is | kernel_rfl | exact rfl)
    (case fc16 => first | k_is | kernel_rfl | exact rfl)
    (case fT16 => first | k_is | kernel_rfl | exact rfl)
    (case fp16 => first | k_is | kernel_rfl | exact rfl)
    (case fd16 => first | k_is | kernel_rfl | exact rfl)
    (case fv16 => exact rfl)
    (case ff16 => first | k_is | kernel_rfl | exact rfl)
    (case fk16 => first | k_is | kernel_rfl | exact rfl)
    (case ec17 => first | k_is | kernel_rfl | exact rfl)
    (case er17 => first | k_is | kernel_rfl | exact rfl)
    (case fl17 => first | k_is | kernel_rfl | exact rfl)
    (case fc17 => first | k_is | kernel_rfl | exact rfl)
    (case fT17 => first | k_is | kernel_rfl | exact rfl)
    (case fp17 => first | k_is | kernel_rfl | exact rfl)
    (case fd17 => first | k_is | kernel_rfl | exact rfl)
    (case fv17 => exact rfl)
    (case ff17 => first | k_is | kernel_rfl | exact rfl)
    (case fk17 => first | k_is | kernel_rfl | exact rfl)
    (case ec18 => first | k_is | kernel_rfl | exact rfl)
    (case er18 => first | k_is | kernel_rfl | exact rfl)
    (case fl18 => first | k_is | kernel_rfl | exact rfl)
    (case fc18 => first | k_is | kernel_rfl | exact rfl)
    (case fT18 => first | k_is | kernel_rfl | exact rfl)
    (case fp18 => first | k_is | kernel_rfl | exact rfl)
    (case fd18 => first | k_is | kernel_rfl | exact rfl)
    (case fv18 => exact rfl)
    (case ff18 => first | k_is | kernel_rfl | exact rfl)
    (case fk18 => first | k_is | kernel_rfl | exact rfl)
    (case ec19 => first | k_is | kernel_rfl | exact rfl)
    (case er19 => first | k_is | kernel_rfl | exact rfl)
    (case fl19 => first | k_is | kernel_rfl | exact rfl)
    (case fc19 => first | k_is | kernel_rfl | exact rfl)
    (case fT19 => first | k_is | kernel_rfl | exact rfl)
    (case fp19 => first | k_is | kernel_rfl | exact rfl)
    (case fd19 => first | k_is | kernel_rfl | exact rfl)
    (case fv19 => exact rfl)
    (case ff19 => first | k_is | kernel_rfl | exact rfl)
    (case fk19 => first | k_is | kernel_rfl | exact rfl)
    (case ec20 => first | k_is | kernel_rfl | exact rfl)
    (case er20 => first | k_is | kernel_rfl | exact rfl)
    (case fl20 => first | k_is | kernel_rfl | exact rfl)
    (case fc20 => first | k_is | kernel_rfl | exact rfl)
    (case fT20 => first | k_is | kernel_rfl | exact rfl)
    (case fp20 => first | k_is | kernel_rfl | exact rfl)
    (case fd20 => first | k_is | kernel_rfl | exact rfl)
    (case fv20 => exact rfl)
    (case ff20 => first | k_is | kernel_rfl | exact rfl)
    (case fk20 => first | k_is | kernel_rfl | exact rfl)
    (case ec21 => first | k_is | kernel_rfl | exact rfl)
    (case er21 => first | k_is | kernel_rfl | exact rfl)
    (case fl21 => first | k_is | kernel_rfl | exact rfl)
    (case fc21 => first | k_is | kernel_rfl | exact rfl)
    (case fT21 => first | k_is | kernel_rfl | exact rfl)
    (case fp21 => first | k_is | kernel_rfl | exact rfl)
    (case fd21 => first | k_is | kernel_rfl | exact rfl)
    (case fv21 => exact rfl)
    (case ff21 => first | k_is | kernel_rfl | exact rfl)
    (case fk21 => first | k_is | kernel_rfl | exact rfl)
    (case ec22 => first | k_is | kernel_rfl | exact rfl)
    (case er22 => first | k_is | kernel_rfl | exact rfl)
    (case fl22 => first | k_is | kernel_rfl | exact rfl)
    (case fc22 => first | k_is | kernel_rfl | exact rfl)
    (case fT22 => first | k_is | kernel_rfl | exact rfl)
    (case fp22 => first | k_is | kernel_rfl | exact rfl)
    (case fd22 => first | k_is | kernel_rfl | exact rfl)
    (case fv22 => exact rfl)
    (case ff22 => first | k_is | kernel_rfl | exact rfl)
    (case fk22 => first | k_is | kernel_rfl | exact rfl)
    (case ec23 => first | k_is | kernel_rfl | exact rfl)
    (case er23 => first | k_is | kernel_rfl | exact rfl)
    (case fl23 => first | k_is | kernel_rfl | exact rfl)
    (case fc23 => first | k_is | kernel_rfl | exact rfl)
    (case fT23 => first | k_is | kernel_rfl | exact rfl)
    (case fp23 => first | k_is | kernel_rfl | exact rfl)
    (case fd23 => first | k_is | kernel_rfl | exact rfl)
    (case fv23 => exact rfl)
    (case ff23 => first | k_is | kernel_rfl | exact rfl)
    (case fk23 => first | k_is | kernel_rfl | exact rfl)
    (case ec24 => first | k_is | kernel_rfl | exact rfl)
    (case er24 => first | k_is | kernel_rfl | exact rfl)
    (case fl24 => first | k_is | kernel_rfl | exact rfl)
    (case fc24 => first | k_is | kernel_rfl | exact rfl)
    (case fT24 => first | k_is | kernel_rfl | exact rfl)
    (case fp24 => first | k_is | kernel_rfl | exact rfl)
    (case fd24 => first | k_is | kernel_rfl | exact rfl)
    (case fv24 => exact rfl)
    (case ff24 => first | k_is | kernel_rfl | exact rfl)
    (case fk24 => first | k_is | kernel_rfl | exact rfl)
    (case ec25 => first | k_is | kernel_rfl | exact rfl)
    (case er25 => first | k_is | kernel_rfl | exact rfl)
    (case fl25 => first | k_is | kernel_rfl | exact rfl)
    (case fc25 => first | k_is | kernel_rfl | exact rfl)
    (case fT25 => first | k_is | kernel_rfl | exact rfl)
    (case fp25 => first | k_is | kernel_rfl | exact rfl)
    (case fd25 => first | k_is | kernel_rfl | exact rfl)
    (case fv25 => exact rfl)
    (case ff25 => first | k_is | kernel_rfl | exact rfl)
    (case fk25 => first | k_is | kernel_rfl | exact rfl)
    (case ec26 => first | k_is | kernel_rfl | exact rfl)
    (case er26 => first | k_is | kernel_rfl | exact rfl)
    (case fl26 => first | k_is | kernel_rfl | exact rfl)
    (case fc26 => first | k_is | kernel_rfl | exact rfl)
    (case fT26 => first | k_is | kernel_rfl | exact rfl)
    (case fp26 => first | k_is | kernel_rfl | exact rfl)
    (case fd26 => first | k_is | kernel_rfl | exact rfl)
    (case fv26 => exact rfl)
    (case ff26 => first | k_is | kernel_rfl | exact rfl)
    (case fk26 => first | k_is | kernel_rfl | exact rfl)
    (case ec27 => first | k_is | kernel_rfl | exact rfl)
    (case er27 => first | k_is | kernel_rfl | exact rfl)
    (case fl27 => first | k_is | kernel_rfl | exact rfl)
    (case fc27 => first | k_is | kernel_rfl | exact rfl)
    (case fT27 => first | k_is | kernel_rfl | exact rfl)
    (case fp27 => first | k_is | kernel_rfl | exact rfl)
    (case fd27 => first | k_is | kernel_rfl | exact rfl)
    (case fv27 => exact rfl)
    (case ff27 => first | k_is | kernel_rfl | exact rfl)
    (case fk27 => first | k_is | kernel_rfl | exact rfl)
    (case etop => first | k_is | kernel_rfl | exact rfl)
    (case mk_OpenText => first | k_is | kernel_rfl | exact rfl)
    (case kp_OpenText => first | k_is | kernel_rfl | exact rfl)
    (case nn0_OpenText => first | k_is | kernel_rfl | exact rfl)
    (case nn1_OpenText => first | k_is | kernel_rfl | exact rfl)
    (case nn2_OpenText => first | k_is | kernel_rfl | exact rfl)
    (case nn3_OpenText => first | k_is | kernel_rfl | exact rfl)
    (case nn4_OpenText => first | k_is | kernel_rfl | exact rfl)
    (case nn5_OpenText => first | k_is | kernel_rfl | exact rfl)
    (case dis_whole_a => first | k_is | kernel_rfl)
    (case dis_whole_l => first | k_is | kernel_rfl)
    (case dis_whole_c => first | k_is | kernel_rfl)
    (case dis_whole_k => first | k_is | kernel_rfl)
    (case dis_between_a => first | k_is | kernel_rfl)
    (case dis_between_l => first | k_is | kernel_rfl)
    (case dis_between_c => first | k_is | kernel_rfl)
    (case dis_between_k => first | k_is | kernel_rfl)
    (case dare_counts_a => first | k_is | kernel_rfl)
    (case dare_counts_l => first | k_is | kernel_rfl)
    (case dare_counts_c => first | k_is | kernel_rfl)
    (case dare_counts_k => first | k_is | kernel_rfl)
    (case dis_letters_a => first | k_is | kernel_rfl)
    (case dis_letters_l => first | k_is | kernel_rfl)
    (case dis_letters_c => first | k_is | kernel_rfl)
    (case dis_letters_k => first | k_is | kernel_rfl)
    (case dis_form_for_a => first | k_is | kernel_rfl)
    (case dis_form_for_l => first | k_is | kernel_rfl)
    (case dis_form_for_c => first | k_is | kernel_rfl)
    (case dis_form_for_k => first | k_is | kernel_rfl)
    (case dcheck_number_a => first | k_is | kernel_rfl)
    (case dcheck_number_l => first | k_is | kernel_rfl)
    (case dcheck_number_c => first | k_is | kernel_rfl)
    (case dcheck_number_k => first | k_is | kernel_rfl)
    (case dcheck_many_a => first | k_is | kernel_rfl)
    (case dcheck_many_l => first | k_is | kernel_rfl)
    (case dcheck_many_c => first | k_is | kernel_rfl)
    (case dcheck_many_k => first | k_is | kernel_rfl)
    (case dplain_a => first | k_is | kernel_rfl)
    (case dplain_l => first | k_is | kernel_rfl)
    (case dplain_c => first | k_is | kernel_rfl)
    (case dplain_k => first | k_is | kernel_rfl)
    (case dis_open_form_a => first | k_is | kernel_rfl)
    (case dis_open_form_l => first | k_is | kernel_rfl)
    (case dis_open_form_c => first | k_is | kernel_rfl)
    (case dis_open_form_k => first | k_is | kernel_rfl)
    (case dform_sum_a => first | k_is | kernel_rfl)
    (case dform_sum_l => first | k_is | kernel_rfl)
    (case dform_sum_c => first | k_is | kernel_rfl)
    (case dform_sum_k => first | k_is | kernel_rfl)
    (case dform_times_a => first | k_is | kernel_rfl)
    (case dform_times_l => first | k_is | kernel_rfl)
    (case dform_times_c => first | k_is | kernel_rfl)
    (case dform_times_k => first | k_is | kernel_rfl)
    (case dborders_a => first | k_is | kernel_rfl)
    (case dborders_l => first | k_is | kernel_rfl)
    (case dborders_c => first | k_is | kernel_rfl)
    (case dborders_k => first | k_is | kernel_rfl)
    (case droot_of_a => first | k_is | kernel_rfl)
    (case droot_of_l => first | k_is | kernel_rfl)
    (case droot_of_c => first | k_is | kernel_rfl)
    (case droot_of_k => first | k_is | kernel_rfl)
    (case dturned_word_a => first | k_is | kernel_rfl)
    (case dturned_word_l => first | k_is | kernel_rfl)
    (case dturned_word_c => first | k_is | kernel_rfl)
    (case dturned_word_k => first | k_is | kernel_rfl)
    (case drow_from_a => first | k_is | kernel_rfl)
    (case drow_from_l => first | k_is | kernel_rfl)
    (case drow_from_c => first | k_is | kernel_rfl)
    (case drow_from_k => first | k_is | kernel_rfl)
    (case dstart_of_a => first | k_is | kernel_rfl)
    (case dstart_of_l => first | k_is | kernel_rfl)
    (case dstart_of_c => first | k_is | kernel_rfl)
    (case dstart_of_k => first | k_is | kernel_rfl)
    (case dend_of_row_a => first | k_is | kernel_rfl)
    (case dend_of_row_l => first | k_is | kernel_rfl)
    (case dend_of_row_c => first | k_is | kernel_rfl)
    (case dend_of_row_k => first | k_is | kernel_rfl)
    (case dis_piece_a => first | k_is | kernel_rfl)
    (case dis_piece_l => first | k_is | kernel_rfl)
    (case dis_piece_c => first | k_is | kernel_rfl)
    (case dis_piece_k => first | k_is | kernel_rfl)
    (case dmeasure_a => first | k_is | kernel_rfl)
    (case dmeasure_l => first | k_is | kernel_rfl)
    (case dmeasure_c => first | k_is | kernel_rfl)
    (case dmeasure_k => first | k_is | kernel_rfl)
    (case dcheck_pieces_a => first | k_is | kernel_rfl)
    (case dcheck_pieces_l => first | k_is | kernel_rfl)
    (case dcheck_pieces_c => first | k_is | kernel_rfl)
    (case dcheck_pieces_k => first | k_is | kernel_rfl)
    (case dpush_word_a => first | k_is | kernel_rfl)
    (case dpush_word_l => first | k_is | kernel_rfl)
    (case dpush_word_c => first | k_is | kernel_rfl)
    (case dpush_word_k => first | k_is | kernel_rfl)
    (case dpush_power_a => first | k_is | kernel_rfl)
    (case dpush_power_l => first | k_is | kernel_rfl)
    (case dpush_power_c => first | k_is | kernel_rfl)
    (case dpush_power_k => first | k_is | kernel_rfl)
    (case dnormal_pieces_a => first | k_is | kernel_rfl)
    (case dnormal_pieces_l => first | k_is | kernel_rfl)
    (case dnormal_pieces_c => first | k_is | kernel_rfl)
    (case dnormal_pieces_k => first | k_is | kernel_rfl)
    (case dOpenText___init___a => first | k_is | kernel_rfl)
    (case dOpenText___init___t => first | k_is | kernel_rfl)
    (case dOpenText___init___l => first | k_is | kernel_rfl)
    (case dOpenText___init___c => first | k_is | kernel_rfl)
    (case dOpenText___init___k => first | k_is | kernel_rfl)
    (case dOpenText___eq___a => first | k_is | kernel_rfl)
    (case dOpenText___eq___t => first | k_is | kernel_rfl)
    (case dOpenText___eq___l => first | k_is | kernel_rfl)
    (case dOpenText___eq___c => first | k_is | kernel_rfl)
    (case dOpenText___eq___k => first | k_is | kernel_rfl)
    (case d_law_hash_a => first | k_is | kernel_rfl)
    (case d_law_hash_l => first | k_is | kernel_rfl)
    (case d_law_hash_c => first | k_is | kernel_rfl)
    (case d_law_hash_k => first | k_is | kernel_rfl)
    (case d_law_generator_a => first | k_is | kernel_rfl)
    (case d_law_generator_l => first | k_is | kernel_rfl)
    (case d_law_generator_c => first | k_is | kernel_rfl)
    (case d_law_generator_k => first | k_is | kernel_rfl)
    (case d_law_random_a => first | k_is | kernel_rfl)
    (case d_law_random_l => first | k_is | kernel_rfl)
    (case d_law_random_c => first | k_is | kernel_rfl)
    (case d_law_random_k => first | k_is | kernel_rfl)
    (case d_law_first_a => first | k_is | kernel_rfl)
    (case d_law_first_l => first | k_is | kernel_rfl)
    (case d_law_first_c => first | k_is | kernel_rfl)
    (case d_law_first_k => first | k_is | kernel_rfl)
    (case d_law_second_a => first | k_is | kernel_rfl)
    (case d_law_second_l => first | k_is | kernel_rfl)
    (case d_law_second_c => first | k_is | kernel_rfl)
    (case d_law_second_k => first | k_is | kernel_rfl)
    (case d_law_third_a => first | k_is | kernel_rfl)
    (case d_law_third_l => first | k_is | kernel_rfl)
    (case d_law_third_c => first | k_is | kernel_rfl)
    (case d_law_third_k => first | k_is | kernel_rfl)
    (case d_law_fourth_a => first | k_is | kernel_rfl)
    (case d_law_fourth_l => first | k_is | kernel_rfl)
    (case d_law_fourth_c => first | k_is | kernel_rfl)
    (case d_law_fourth_k => first | k_is | kernel_rfl)
    (case d_law_kinds_a => first | k_is | kernel_rfl)
    (case d_law_kinds_l => first | k_is | kernel_rfl)
    (case d_law_kinds_c => first | k_is | kernel_rfl)
    (case d_law_kinds_k => first | k_is | kernel_rfl)
    (case d_law_empty_a => first | k_is | kernel_rfl)
    (case d_law_empty_l => first | k_is | kernel_rfl)
    (case d_law_empty_c => first | k_is | kernel_rfl)
    (case d_law_empty_k => first | k_is | kernel_rfl)
    (case d_law_named_a => first | k_is | kernel_rfl)
    (case d_law_named_l => first | k_is | kernel_rfl)
    (case d_law_named_c => first | k_is | kernel_rfl)
    (case d_law_named_k => first | k_is | kernel_rfl)
    (case d_law_value_a => first | k_is | kernel_rfl)
    (case d_law_value_l => first | k_is | kernel_rfl)
    (case d_law_value_c => first | k_is | kernel_rfl)
    (case d_law_value_k => first | k_is | kernel_rfl)
    (case d_law_made_a => first | k_is | kernel_rfl)
    (case d_law_made_l => first | k_is | kernel_rfl)
    (case d_law_made_c => first | k_is | kernel_rfl)
    (case d_law_made_k => first | k_is | kernel_rfl)
    (case dlaw_a => first | k_is | kernel_rfl)
    (case dlaw_l => first | k_is | kernel_rfl)
    (case dlaw_c => first | k_is | kernel_rfl)
    (case dlaw_k => first | k_is | kernel_rfl)
#print axioms PySem.Challenge.cw_openloops_k08_errors_by_their_classes_holds

