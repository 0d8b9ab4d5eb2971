import PyProof.Rows.All
import Wide.All
import OpenK.AllK
import Wide.FinOn
import HandS.ForMost
import HandS.ForExc
import HandS.CallSlots
import HandS.Wide
import HandS.Defaults
import HandS.Style
import HandS.IsInst
import HandS.TupMul
import HandS.Flow
import HandS.TupAny
import PyProof.Rows.RuleB_pow
import HandS.WideBits
import PyProof.ReprReads
import HandS.Zip
import HandS.Zip0
import PyProof.ZipIter
import PyProof.EqAt
import PyProof.EqKinds
import PyProof.TupleCall
import Open.SpecLaws
import KE.OsGo
import HandS.ForSpec
import HandS.ExcSuper
import HandS.ExcInit
import KE.KSuper
import KE.KExcSuper
import KE.KExcIs
import PySem.Challenge.RW_openloops_k01_forms_at_points
set_option Elab.async false
set_option linter.all false
set_option maxRecDepth 100000
set_option maxHeartbeats 4000000
namespace FL
open PySem PySem.Spec PyProof.Rows L2

/-- plain data: what is never changed once it is made -/
inductive D where
  | non | bl (b : Bool) | int (i : Int) | str (x : Str) | ty (n : String) | adr (a : Addr)
  | tup (xs : List D) | lst (xs : List D) | scr (ns : List Int) | cls (c : Nat)
  | obj (c : Nat) (ns : List Str) (vs : List D)
  | exc (c : Nat) (ns : List Str) (vs : List D)
/-- a value: data, or a changing object of the store -/
inductive Xv where
  | d (x : D) | ref (i : Nat)
/-- a changing object -/
inductive O where
  | dead | lst (xs : List D) | ins (c : Nat) (ns : List Str) (vs : List D)
abbrev Env' := List (Option Xv)
abbrev Sto := List O
inductive Res where
  | ok (v : Xv) (s : Sto) | exc (e : D) (s : Sto) | stuck
inductive Out where
  | nx (r : Env') (s : Sto) | rt (v : Xv) (s : Sto) | bk (r : Env') (s : Sto) | ct (r : Env') (s : Sto) | exc (e : D) (r : Env') (s : Sto) | stuck
inductive ResL where
  | ok (v : List Xv) (s : Sto) | exc (e : D) (s : Sto) | stuck
abbrev FE := Env' → Sto → Res
abbrev FA := Env' → Sto → ResL
abbrev FS := Env' → Sto → Out

/-- the text's facts: the written part, its classes by number -/
structure Tx where
  K : PySem.W.Frag
  ct : Nat → Addr
  n : Nat
  sub : Nat → Nat → Bool
structure Wd where
  G : Hp
  Z : Hp
  io : List Addr
/-- an exception's object -/
def ExA (cls : Value) (d : Option Addr) (a : Addr) : HO := .ext fun h => ∃ (oe : Obj), h.get? a = some oe ∧ Zc cls d oe ∧ ∃ vs, oe.data = .fields vs

section
variable (T : Tx)
mutual
def R (G : Hp) : D → V → Prop
  | .non, v => v = .non
  | .bl b, v => v = .bl b
  | .int i, v => v = .int i
  | .str x, v => v = .str x
  | .ty n, v => v = .ty n
  | .adr a, v => v = .ref a
  | .cls c, v => v = .ref (T.ct c)
  | .tup xs, v => ∃ a vs, v = .ref a ∧ SqT T.K G a vs ∧ Rs G xs vs
  | .lst xs, v => ∃ a vs, v = .ref a ∧ G a = some (.lst vs) ∧ Rs G xs vs
  | .scr ns, v => ∃ a, v = .ref a ∧ SqL T.K G a (ns.map V.int)
  | .obj c ns xs, v => ∃ a dx fs, v = .ref a ∧ G a = some (.ins (T.ct c) dx fs) ∧ fs.map (·.1) = ns ∧ Rs G xs (fs.map (·.2))
  | .exc c ns xs, v => ∃ a d fs, v = .ref a ∧ G a = some (ExA (.ref (T.ct c)) d a) ∧ ((d = none ∧ ns = []) ∨ ∃ dd, d = some dd ∧ G dd = some (.xd fs)) ∧ fs.map (·.1) = ns ∧ Rs G xs (fs.map (·.2))
def Rs (G : Hp) : List D → List V → Prop
  | [], vs => vs = []
  | d :: ds, vs => ∃ v r, vs = v :: r ∧ R G d v ∧ Rs G ds r
end
def RX (w : Wd) : Xv → V → Prop
  | .d x, v => R T w.G x v
  | .ref i, v => ∃ a, w.io[i]? = some a ∧ v = .ref a
def RXs (w : Wd) : List Xv → List V → Prop
  | [], vs => vs = []
  | d :: ds, vs => ∃ v r, vs = v :: r ∧ RX T w d v ∧ RXs w ds r
def RO (G : Hp) : O → HO → Prop
  | .dead, _ => True
  | .lst xs, ho => ∃ vs, ho = .lst vs ∧ Rs T G xs vs
  | .ins c ns xs, ho => ∃ dx fs, ho = .ins (T.ct c) dx fs ∧ fs.map (·.1) = ns ∧ Rs T G xs (fs.map (·.2))
structure RS (w : Wd) (s : List O) (H : Hp) : Prop where
  g : Same w.G H
  z : Same w.Z H
  gz : ∀ a o, w.Z a = some o → w.G a = none
  len : w.io.length = s.length
  live : ∀ (i : Nat) (o : O) (a : Addr), s[i]? = some o → o ≠ .dead → w.io[i]? = some a → ∃ ho, H a = some ho ∧ RO T w.G o ho ∧ w.G a = none ∧ w.Z a = none
  inj : ∀ (i j : Nat) (o u : O) (a : Addr), s[i]? = some o → o ≠ .dead → s[j]? = some u → u ≠ .dead → w.io[i]? = some a → w.io[j]? = some a → i = j
structure RE (w : Wd) (r : List (Option Xv)) (st : L2.St) : Prop where
  len : r.length = st.length
  at_ : ∀ (i : Nat) (v : Xv), r[i]? = some (some v) → ∃ u, st[i]? = some (some u) ∧ RX T w v u
end
structure Le (w w' : Wd) : Prop where
  g : Same w.G w'.G
  z : w'.Z = w.Z
  io : ∃ t, w'.io = w.io ++ t
theorem Le.refl (w : Wd) : Le w w := ⟨Same.refl _, rfl, [], by simp⟩
theorem Le.trans {a b c : Wd} (h : Le a b) (k : Le b c) : Le a c := ⟨h.g.trans k.g, k.z.trans h.z, by
  obtain ⟨t, e⟩ := h.io
  obtain ⟨u, f⟩ := k.io
  exact ⟨t ++ u, by rw [f, e, List.append_assoc]⟩⟩
theorem Le.at {w w' : Wd} (h : Le w w') {i : Nat} {a : Addr} (e : w.io[i]? = some a) : w'.io[i]? = some a := by
  obtain ⟨t, q⟩ := h.io
  rw [q, List.getElem?_append_left (List.getElem?_eq_some_iff.mp e).1]
  exact e
theorem sqT_mono {K : PySem.W.Frag} {G G' : Hp} (h : Same G G') {a : Addr} {xs : List V} (e : SqT K G a xs) : SqT K G' a xs := by
  rcases e with (e | ⟨o, e⟩) | e
  · exact .inl (.inl (h _ _ e))
  · exact .inl (.inr ⟨o, h _ _ e⟩)
  · exact .inr e
section
variable {T : Tx}
mutual
theorem R.mono {G G' : Hp} (h : Same G G') : ∀ {x : D} {v : V}, R T G x v → R T G' x v
  | .non, _, e => by unfold R at e ⊢; exact e
  | .bl _, _, e => by unfold R at e ⊢; exact e
  | .int _, _, e => by unfold R at e ⊢; exact e
  | .str _, _, e => by unfold R at e ⊢; exact e
  | .ty _, _, e => by unfold R at e ⊢; exact e
  | .adr _, _, e => by unfold R at e ⊢; exact e
  | .cls _, _, e => by unfold R at e ⊢; exact e
  | .tup xs, _, e => by
    unfold R at e ⊢
    obtain ⟨a, vs, e1, e2, e3⟩ := e
    exact ⟨a, vs, e1, sqT_mono h e2, Rs.mono h e3⟩
  | .lst xs, _, e => by
    unfold R at e ⊢
    obtain ⟨a, vs, e1, e2, e3⟩ := e
    exact ⟨a, vs, e1, h _ _ e2, Rs.mono h e3⟩
  | .scr ns, _, e => by
    unfold R at e ⊢
    obtain ⟨a, e1, e2⟩ := e
    exact ⟨a, e1, h.seq e2⟩
  | .obj c ns xs, _, e => by
    unfold R at e ⊢
    obtain ⟨a, dx, fs, e1, e2, e3, e4⟩ := e
    exact ⟨a, dx, fs, e1, h _ _ e2, e3, Rs.mono h e4⟩
  | .exc c ns xs, _, e => by
    unfold R at e ⊢
    obtain ⟨a, d, fs, e1, e2, e3, e4, e5⟩ := e
    refine ⟨a, d, fs, e1, h _ _ e2, ?_, e4, Rs.mono h e5⟩
    rcases e3 with e3 | ⟨dd, e3, e6⟩
    · exact .inl e3
    · exact .inr ⟨dd, e3, h _ _ e6⟩
theorem Rs.mono {G G' : Hp} (h : Same G G') : ∀ {xs : List D} {vs : List V}, Rs T G xs vs → Rs T G' xs vs
  | [], _, e => by unfold Rs at e ⊢; exact e
  | d :: ds, _, e => by
    unfold Rs at e ⊢
    obtain ⟨v, r, e1, e2, e3⟩ := e
    exact ⟨v, r, e1, R.mono h e2, Rs.mono h e3⟩
end
theorem RX.mono {w w' : Wd} (h : Le w w') : ∀ {x : Xv} {v : V}, RX T w x v → RX T w' x v
  | .d x, _, e => R.mono h.g e
  | .ref i, _, ⟨a, e1, e2⟩ => ⟨a, h.at e1, e2⟩
theorem RXs.mono {w w' : Wd} (h : Le w w') : ∀ {xs : List Xv} {vs : List V}, RXs T w xs vs → RXs T w' xs vs
  | [], _, e => e
  | _ :: _, _, ⟨v, r, e1, e2, e3⟩ => ⟨v, r, e1, e2.mono h, e3.mono h⟩
theorem RE.mono {w w' : Wd} (h : Le w w') {r : Env'} {st : L2.St} (e : RE T w r st) : RE T w' r st := ⟨e.len, fun i v q => by
  obtain ⟨u, e1, e2⟩ := e.at_ i v q
  exact ⟨u, e1, e2.mono h⟩⟩
theorem RO.mono {G G' : Hp} (h : Same G G') : ∀ {o : O} {ho : HO}, RO T G o ho → RO T G' o ho
  | .dead, _, _ => True.intro
  | .lst _, _, ⟨vs, e1, e2⟩ => ⟨vs, e1, Rs.mono h e2⟩
  | .ins _ _ _, _, ⟨dx, fs, e1, e2, e3⟩ => ⟨dx, fs, e1, e2, Rs.mono h e3⟩
theorem Rs.length {G : Hp} : ∀ {xs : List D} {vs : List V}, Rs T G xs vs → xs.length = vs.length
  | [], _, e => by unfold Rs at e; subst e; rfl
  | d :: ds, _, e => by
    unfold Rs at e
    obtain ⟨v, r, e1, e2, e3⟩ := e
    subst e1
    simp [Rs.length e3]
theorem RXs.length {w : Wd} : ∀ {xs : List Xv} {vs : List V}, RXs T w xs vs → xs.length = vs.length
  | [], _, e => by
    have e' : _ = [] := e
    subst e'; rfl
  | d :: ds, _, e => by
    obtain ⟨v, r, e1, e2, e3⟩ := e
    subst e1
    simp [RXs.length e3]
theorem Rs.get {G : Hp} : ∀ {xs : List D} {vs : List V} {i : Nat} {x : D}, Rs T G xs vs → xs[i]? = some x → ∃ v, vs[i]? = some v ∧ R T G x v
  | [], _, _, _, _, h => by simp at h
  | d :: ds, _, 0, x, e, h => by
    unfold Rs at e
    obtain ⟨v, r, e1, e2, e3⟩ := e
    subst e1
    simp at h
    subst h
    exact ⟨v, rfl, e2⟩
  | d :: ds, _, i + 1, x, e, h => by
    unfold Rs at e
    obtain ⟨v, r, e1, e2, e3⟩ := e
    subst e1
    obtain ⟨u, q1, q2⟩ := Rs.get (i := i) (x := x) e3 (by simpa using h)
    exact ⟨u, by simpa using q1, q2⟩
theorem Rs.append {G : Hp} : ∀ {xs ys : List D} {vs us : List V}, Rs T G xs vs → Rs T G ys us → Rs T G (xs ++ ys) (vs ++ us)
  | [], ys, vs, us, e, h => by unfold Rs at e; subst e; exact h
  | d :: ds, ys, vs, us, e, h => by
    unfold Rs at e
    obtain ⟨v, r, e1, e2, e3⟩ := e
    subst e1
    show Rs T G (d :: (ds ++ ys)) _
    unfold Rs
    exact ⟨v, r ++ us, rfl, e2, Rs.append e3 h⟩
theorem Rs.one {G : Hp} {x : D} {v : V} (h : R T G x v) : Rs T G [x] [v] := by
  unfold Rs
  exact ⟨v, [], rfl, h, by unfold Rs; rfl⟩
theorem Rs.set {G : Hp} {y : D} {u : V} (h : R T G y u) : ∀ {xs : List D} {vs : List V} (i : Nat), Rs T G xs vs → Rs T G (xs.set i y) (vs.set i u)
  | [], vs, i, e => by unfold Rs at e; subst e; show Rs T G [] []; unfold Rs; rfl
  | d :: ds, vs, 0, e => by
    unfold Rs at e
    obtain ⟨v, r, e1, e2, e3⟩ := e
    subst e1
    show Rs T G (y :: ds) (u :: r)
    unfold Rs
    exact ⟨u, r, rfl, h, e3⟩
  | d :: ds, vs, i + 1, e => by
    unfold Rs at e
    obtain ⟨v, r, e1, e2, e3⟩ := e
    subst e1
    show Rs T G (d :: ds.set i y) (v :: r.set i u)
    unfold Rs
    exact ⟨v, r.set i u, rfl, e2, Rs.set h i e3⟩
theorem Rs.take {G : Hp} : ∀ {xs : List D} {vs : List V} (n : Nat), Rs T G xs vs → Rs T G (xs.take n) (vs.take n)
  | xs, vs, 0, e => by simp; unfold Rs; rfl
  | [], vs, n + 1, e => by unfold Rs at e; subst e; show Rs T G [] []; unfold Rs; rfl
  | d :: ds, vs, n + 1, e => by
    unfold Rs at e
    obtain ⟨v, r, e1, e2, e3⟩ := e
    subst e1
    show Rs T G (d :: ds.take n) (v :: r.take n)
    unfold Rs
    exact ⟨v, r.take n, rfl, e2, Rs.take n e3⟩
theorem Rs.drop {G : Hp} : ∀ {xs : List D} {vs : List V} (n : Nat), Rs T G xs vs → Rs T G (xs.drop n) (vs.drop n)
  | xs, vs, 0, e => e
  | [], vs, n + 1, e => by unfold Rs at e; subst e; show Rs T G [] []; unfold Rs; rfl
  | d :: ds, vs, n + 1, e => by
    unfold Rs at e
    obtain ⟨v, r, e1, e2, e3⟩ := e
    subst e1
    show Rs T G (ds.drop n) (r.drop n)
    exact Rs.drop n e3
theorem Rs.cons {G : Hp} {x : D} {xs : List D} {v : V} {vs : List V} (h : R T G x v) (k : Rs T G xs vs) : Rs T G (x :: xs) (v :: vs) := by
  unfold Rs
  exact ⟨v, vs, rfl, h, k⟩
theorem RXs.cons {w : Wd} {x : Xv} {xs : List Xv} {v : V} {vs : List V} (h : RX T w x v) (k : RXs T w xs vs) : RXs T w (x :: xs) (v :: vs) := ⟨v, vs, rfl, h, k⟩

/-! ### the readings -/
/-- an exception's data, its class and its dict -/
def RExc (T : Tx) (w : Wd) (e : D) (cls : Value) (d : Option Addr) : Prop :=
  ∃ c ns xs fs, e = .exc c ns xs ∧ cls = .ref (T.ct c) ∧ ((d = none ∧ ns = []) ∨ ∃ dd, d = some dd ∧ w.G dd = some (.xd fs)) ∧ fs.map (·.1) = ns ∧ Rs T w.G xs (fs.map (·.2))
def PostE (T : Tx) (W : WX) (st : L2.St) (w : Wd) (r : Res) (Q : VK) : Prop := match r with
  | .ok v s => ∀ w' u H', Le w w' → RX T w' v u → RS T w' s H' → Q u H'
  | .exc e s => ∀ w' cls d H', Le w w' → RExc T w' e cls d → RS T w' s H' → W cls d st H'
  | .stuck => False
def rdE (T : Tx) (W : WX) (f : FE) : TE := fun st H Q => ∃ w r s, RE T w r st ∧ RS T w s H ∧ PostE T W st w (f r s) Q
def PostA (T : Tx) (W : WX) (st : L2.St) (w : Wd) (r : ResL) (Q : List V → Hp → Prop) : Prop := match r with
  | .ok v s => ∀ w' u H', Le w w' → RXs T w' v u → RS T w' s H' → Q u H'
  | .exc e s => ∀ w' cls d H', Le w w' → RExc T w' e cls d → RS T w' s H' → W cls d st H'
  | .stuck => False
def rdA (T : Tx) (W : WX) (f : FA) : TA := fun st H Q => ∃ w r s, RE T w r st ∧ RS T w s H ∧ PostA T W st w (f r s) Q
/-- a value's truth -/
def truth : Xv → Sto → Option Bool
  | .d .non, _ => some false
  | .d (.bl b), _ => some b
  | .d (.int i), _ => some (i != 0)
  | .d (.tup xs), _ => some (!xs.isEmpty)
  | .d (.lst xs), _ => some (!xs.isEmpty)
  | _, _ => none
def PostT (T : Tx) (W : WX) (st : L2.St) (w : Wd) (r : Res) (Q : Bool → Hp → Prop) : Prop := match r with
  | .ok v s => ∃ b, truth v s = some b ∧ ∀ w' H', Le w w' → RS T w' s H' → Q b H'
  | .exc e s => ∀ w' cls d H', Le w w' → RExc T w' e cls d → RS T w' s H' → W cls d st H'
  | .stuck => False
def rdT (T : Tx) (W : WX) (f : FE) : TT := fun st H Q => ∃ w r s, RE T w r st ∧ RS T w s H ∧ PostT T W st w (f r s) Q
def PostS (T : Tx) (W : WX) (w : Wd) (o : Out) (E : Ends) : Prop := match o with
  | .nx r s => ∀ w' st H', Le w w' → RE T w' r st → RS T w' s H' → E.nx st H'
  | .rt v s => ∀ w' u H', Le w w' → RX T w' v u → RS T w' s H' → E.rt u H'
  | .bk r s => ∀ w' st H', Le w w' → RE T w' r st → RS T w' s H' → E.bk st H'
  | .ct r s => ∀ w' st H', Le w w' → RE T w' r st → RS T w' s H' → E.ct st H'
  | .exc e r s => ∀ w' cls d st H', Le w w' → RExc T w' e cls d → RE T w' r st → RS T w' s H' → W cls d st H'
  | .stuck => False
def rdS (T : Tx) (W : WX) (f : FS) : TS := fun E st H => ∃ w r s, RE T w r st ∧ RS T w s H ∧ PostS T W w (f r s) E

theorem PostE.mono {W : WX} {st : L2.St} {w w' : Wd} {r : Res} {Q : VK} (h : Le w w') (p : PostE T W st w r Q) : PostE T W st w' r Q := by
  cases r with
  | ok v s => exact fun w1 u H' l => p w1 u H' (h.trans l)
  | exc e s => exact fun w1 c d H' l => p w1 c d H' (h.trans l)
  | stuck => exact p
theorem PostA.mono {W : WX} {st : L2.St} {w w' : Wd} {r : ResL} {Q : List V → Hp → Prop} (h : Le w w') (p : PostA T W st w r Q) : PostA T W st w' r Q := by
  cases r with
  | ok v s => exact fun w1 u H' l => p w1 u H' (h.trans l)
  | exc e s => exact fun w1 c d H' l => p w1 c d H' (h.trans l)
  | stuck => exact p
theorem PostT.mono {W : WX} {st : L2.St} {w w' : Wd} {r : Res} {Q : Bool → Hp → Prop} (h : Le w w') (p : PostT T W st w r Q) : PostT T W st w' r Q := by
  cases r with
  | ok v s =>
    obtain ⟨b, e, q⟩ := p
    exact ⟨b, e, fun w1 H' l => q w1 H' (h.trans l)⟩
  | exc e s => exact fun w1 c d H' l => p w1 c d H' (h.trans l)
  | stuck => exact p
theorem PostS.mono {W : WX} {w w' : Wd} {o : Out} {E : Ends} (h : Le w w') (p : PostS T W w o E) : PostS T W w' o E := by
  cases o with
  | nx r s => exact fun w1 st H' l => p w1 st H' (h.trans l)
  | rt v s => exact fun w1 st H' l => p w1 st H' (h.trans l)
  | bk r s => exact fun w1 st H' l => p w1 st H' (h.trans l)
  | ct r s => exact fun w1 st H' l => p w1 st H' (h.trans l)
  | exc e r s => exact fun w1 c d st H' l => p w1 c d st H' (h.trans l)
  | stuck => exact p

/-! ### one thing after another -/
def Res.bind (r : Res) (k : Xv → Sto → Res) : Res := match r with
  | .ok v s => k v s
  | .exc e s => .exc e s
  | .stuck => .stuck
def Res.bindA (r : Res) (k : Xv → Sto → ResL) : ResL := match r with
  | .ok v s => k v s
  | .exc e s => .exc e s
  | .stuck => .stuck
def ResL.bind (r : ResL) (k : List Xv → Sto → Res) : Res := match r with
  | .ok v s => k v s
  | .exc e s => .exc e s
  | .stuck => .stuck
def ResL.bindA (r : ResL) (k : List Xv → Sto → ResL) : ResL := match r with
  | .ok v s => k v s
  | .exc e s => .exc e s
  | .stuck => .stuck
def Res.bindS (r : Res) (ρ : Env') (k : Xv → Sto → Out) : Out := match r with
  | .ok v s => k v s
  | .exc e s => .exc e ρ s
  | .stuck => .stuck
theorem postE_bind {W : WX} {st : L2.St} {w : Wd} {ρ : Env'} {s : Sto} {H : Hp} {f : FE} {k : Xv → Sto → Res} {Q : VK} (e : RE T w ρ st) (r : RS T w s H) (p : PostE T W st w ((f ρ s).bind k) Q) :
    rdE T W f st H fun u H1 => ∃ w1 v s1, Le w w1 ∧ RE T w1 ρ st ∧ RX T w1 v u ∧ RS T w1 s1 H1 ∧ PostE T W st w1 (k v s1) Q := by
  refine ⟨w, ρ, s, e, r, ?_⟩
  cases h : f ρ s with
  | ok v s1 =>
    rw [h] at p
    exact fun w1 u H1 l x y => ⟨w1, v, s1, l, e.mono l, x, y, PostE.mono l p⟩
  | exc x s1 =>
    rw [h] at p
    exact p
  | stuck =>
    rw [h] at p
    exact p
theorem postA_bind {W : WX} {st : L2.St} {w : Wd} {ρ : Env'} {s : Sto} {H : Hp} {f : FE} {k : Xv → Sto → ResL} {Q : List V → Hp → Prop} (e : RE T w ρ st) (r : RS T w s H) (p : PostA T W st w ((f ρ s).bindA k) Q) :
    rdE T W f st H fun u H1 => ∃ w1 v s1, Le w w1 ∧ RE T w1 ρ st ∧ RX T w1 v u ∧ RS T w1 s1 H1 ∧ PostA T W st w1 (k v s1) Q := by
  refine ⟨w, ρ, s, e, r, ?_⟩
  cases h : f ρ s with
  | ok v s1 =>
    rw [h] at p
    exact fun w1 u H1 l x y => ⟨w1, v, s1, l, e.mono l, x, y, PostA.mono l p⟩
  | exc x s1 =>
    rw [h] at p
    exact p
  | stuck =>
    rw [h] at p
    exact p
theorem postE_bindL {W : WX} {st : L2.St} {w : Wd} {ρ : Env'} {s : Sto} {H : Hp} {f : FA} {k : List Xv → Sto → Res} {Q : VK} (e : RE T w ρ st) (r : RS T w s H) (p : PostE T W st w ((f ρ s).bind k) Q) :
    rdA T W f st H fun u H1 => ∃ w1 v s1, Le w w1 ∧ RE T w1 ρ st ∧ RXs T w1 v u ∧ RS T w1 s1 H1 ∧ PostE T W st w1 (k v s1) Q := by
  refine ⟨w, ρ, s, e, r, ?_⟩
  cases h : f ρ s with
  | ok v s1 =>
    rw [h] at p
    exact fun w1 u H1 l x y => ⟨w1, v, s1, l, e.mono l, x, y, PostE.mono l p⟩
  | exc x s1 =>
    rw [h] at p
    exact p
  | stuck =>
    rw [h] at p
    exact p
theorem postA_bindL {W : WX} {st : L2.St} {w : Wd} {ρ : Env'} {s : Sto} {H : Hp} {f : FA} {k : List Xv → Sto → ResL} {Q : List V → Hp → Prop} (e : RE T w ρ st) (r : RS T w s H) (p : PostA T W st w ((f ρ s).bindA k) Q) :
    rdA T W f st H fun u H1 => ∃ w1 v s1, Le w w1 ∧ RE T w1 ρ st ∧ RXs T w1 v u ∧ RS T w1 s1 H1 ∧ PostA T W st w1 (k v s1) Q := by
  refine ⟨w, ρ, s, e, r, ?_⟩
  cases h : f ρ s with
  | ok v s1 =>
    rw [h] at p
    exact fun w1 u H1 l x y => ⟨w1, v, s1, l, e.mono l, x, y, PostA.mono l p⟩
  | exc x s1 =>
    rw [h] at p
    exact p
  | stuck =>
    rw [h] at p
    exact p
theorem postS_bind {W : WX} {st : L2.St} {w : Wd} {ρ : Env'} {s : Sto} {H : Hp} {f : FE} {k : Xv → Sto → Out} {E : Ends} (e : RE T w ρ st) (r : RS T w s H) (p : PostS T W w ((f ρ s).bindS ρ k) E) :
    rdE T W f st H fun u H1 => ∃ w1 v s1, Le w w1 ∧ RE T w1 ρ st ∧ RX T w1 v u ∧ RS T w1 s1 H1 ∧ PostS T W w1 (k v s1) E := by
  refine ⟨w, ρ, s, e, r, ?_⟩
  cases h : f ρ s with
  | ok v s1 =>
    rw [h] at p
    exact fun w1 u H1 l x y => ⟨w1, v, s1, l, e.mono l, x, y, PostS.mono l p⟩
  | exc x s1 =>
    rw [h] at p
    exact fun w1 c d H1 l x y => p w1 c d st H1 l x (e.mono l) y
  | stuck =>
    rw [h] at p
    exact p
/-- the end of an expression -/
theorem postE_ok {W : WX} {st : L2.St} {w : Wd} {v : Xv} {s : Sto} {Q : VK} {u : V} {H : Hp} (p : PostE T W st w (.ok v s) Q) (x : RX T w v u) (r : RS T w s H) : Q u H := p w u H (.refl _) x r

/-! ### the judgements -/
abbrev PF (T : Tx) (X : Cx) (W : WX) (e : Expr) (f : FE) : Prop := PE X e (rdE T W f)
abbrev PFA (T : Tx) (X : Cx) (W : WX) (es : List Expr) (f : FA) : Prop := PA X es (rdA T W f)
abbrev PFT (T : Tx) (X : Cx) (W : WX) (e : Expr) (f : FE) : Prop := PT X e (rdT T W f)
abbrev PFS (T : Tx) (X : Cx) (W : WX) (st : Stmt) (f : FS) : Prop := PS X st (rdS T W f)
abbrev PFSs (T : Tx) (X : Cx) (W : WX) (st : List Stmt) (f : FS) : Prop := PSs X st (rdS T W f)
theorem PE.imp {X : Cx} {e : Expr} {t t' : TE} (h : PE X e t) (k : ∀ st H Q, t' st H Q → t st H Q) : PE X e t' := ⟨fun pins s σ H Q I q => h.run pins s σ H Q I (k _ _ _ q)⟩
theorem PA.imp {X : Cx} {e : List Expr} {t t' : TA} (h : PA X e t) (k : ∀ st H Q, t' st H Q → t st H Q) : PA X e t' := ⟨fun pos pins s σ H Q I q => h.run pos pins s σ H Q I (k _ _ _ q)⟩
theorem PT.imp {X : Cx} {e : Expr} {t t' : TT} (h : PT X e t) (k : ∀ st H Q, t' st H Q → t st H Q) : PT X e t' := ⟨fun pins s σ H Q I q => h.run pins s σ H Q I (k _ _ _ q)⟩
theorem PS.imp {X : Cx} {e : Stmt} {t t' : TS} (h : PS X e t) (k : ∀ E st H, t' E st H → t E st H) : PS X e t' := ⟨fun pins s σ H E I q => h.run pins s σ H E I (k _ _ _ q)⟩
theorem PSs.imp {X : Cx} {e : List Stmt} {t t' : TS} (h : PSs X e t) (k : ∀ E st H, t' E st H → t E st H) : PSs X e t' := ⟨fun pins s σ H E I q => h.run pins s σ H E I (k _ _ _ q)⟩
end
end FL

set_option Elab.async false
set_option linter.all false
set_option maxRecDepth 100000
set_option maxHeartbeats 4000000
namespace FL
open PySem PySem.Spec PyProof.Rows L2
section
variable {T : Tx}

/-! ### new objects -/
/-- a new list: a changing one (m) or plain data -/
def mkL (m : Bool) (xs : List D) (s : Sto) : Res := if m then .ok (.ref s.length) (s ++ [.lst xs]) else .ok (.d (.lst xs)) s
theorem RS.fresh {w : Wd} {s : Sto} {H : Hp} (r : RS T w s H) {p : Addr} (hp : H p = none) : w.G p = none ∧ w.Z p = none := by
  constructor
  · cases e : w.G p with
    | none => rfl
    | some o => rw [r.g _ _ e] at hp; cases hp
  · cases e : w.Z p with
    | none => rfl
    | some o => rw [r.z _ _ e] at hp; cases hp
/-- a new plain object -/
theorem RS.laidG {w : Wd} {s : Sto} {H : Hp} (r : RS T w s H) {p : Addr} (hp : H p = none) (o : HO) : Le w { w with G := upd w.G p o } ∧ RS T { w with G := upd w.G p o } s (upd H p o) := by
  obtain ⟨g0, z0⟩ := r.fresh hp
  have sg : Same w.G (upd w.G p o) := fun b u e => by rw [upd_ne (ne_of_none e g0)]; exact e
  refine ⟨⟨sg, rfl, [], by simp⟩, ⟨fun b u e => ?_, fun b u e => ?_, fun b u e => ?_, r.len, fun i u a e1 e2 e3 => ?_, r.inj⟩⟩
  · by_cases hb : b = p
    · subst hb
      have e' : upd w.G b o b = some u := e
      rw [upd_same] at e' ⊢
      exact e'
    · have e' : upd w.G p o b = some u := e
      rw [upd_ne hb] at e' ⊢
      exact r.g _ _ e'
  · have hb : b ≠ p := ne_of_none (r.z _ _ e) hp
    rw [upd_ne hb]
    exact r.z _ _ e
  · have hb : b ≠ p := ne_of_none (r.z _ _ e) hp
    show upd w.G p o b = none
    rw [upd_ne hb]
    exact r.gz _ _ e
  · obtain ⟨ho, h1, h2, h3, h4⟩ := r.live i u a e1 e2 e3
    have hb : a ≠ p := ne_of_none h1 hp
    exact ⟨ho, by rw [upd_ne hb]; exact h1, RO.mono sg h2, by show upd w.G p o a = none; rw [upd_ne hb]; exact h3, h4⟩
/-- a new changing object -/
theorem RS.laidO {w : Wd} {s : Sto} {H : Hp} (r : RS T w s H) {p : Addr} (hp : H p = none) {o : HO} {u : O} (ro : RO T w.G u o) : Le w { w with io := w.io ++ [p] } ∧ RS T { w with io := w.io ++ [p] } (s ++ [u]) (upd H p o) := by
  obtain ⟨g0, z0⟩ := r.fresh hp
  have hlen := r.len
  have old : ∀ {i : Nat} {v : O} {a : Addr}, i < s.length → (s ++ [u])[i]? = some v → v ≠ .dead → (w.io ++ [p])[i]? = some a → s[i]? = some v ∧ w.io[i]? = some a := fun {i v a} hi e1 _ e3 => by
    rw [List.getElem?_append_left hi] at e1
    rw [List.getElem?_append_left (by omega)] at e3
    exact ⟨e1, e3⟩
  have new : ∀ {i : Nat} {v : O} {a : Addr}, ¬ i < s.length → (s ++ [u])[i]? = some v → (w.io ++ [p])[i]? = some a → i = s.length ∧ v = u ∧ a = p := fun {i v a} hi e1 e3 => by
    have hb := (List.getElem?_eq_some_iff.mp e1).1
    have hi2 : i = s.length := by simp at hb; omega
    rw [hi2, List.getElem?_append_right (Nat.le_refl _)] at e1
    rw [hi2, List.getElem?_append_right (by omega), hlen] at e3
    simp at e1
    simp at e3
    exact ⟨hi2, e1.symm, e3.symm⟩
  refine ⟨⟨Same.refl _, rfl, [p], rfl⟩, ⟨fun b v e => ?_, fun b v e => ?_, r.gz, by simp [hlen], fun i v a e1 e2 e3 => ?_, fun i j v v' a e1 e2 e3 e4 e5 e6 => ?_⟩⟩
  · rw [upd_ne (ne_of_none (r.g _ _ e) hp)]
    exact r.g _ _ e
  · rw [upd_ne (ne_of_none (r.z _ _ e) hp)]
    exact r.z _ _ e
  · by_cases hi : i < s.length
    · obtain ⟨q1, q2⟩ := old hi e1 e2 e3
      obtain ⟨ho, h1, h2, h3, h4⟩ := r.live i v a q1 e2 q2
      exact ⟨ho, by rw [upd_ne (ne_of_none h1 hp)]; exact h1, h2, h3, h4⟩
    · obtain ⟨_, q2, q3⟩ := new hi e1 e3
      subst q2 q3
      exact ⟨o, upd_same, ro, g0, z0⟩
  · by_cases hi : i < s.length
    · obtain ⟨q1, q2⟩ := old hi e1 e2 e5
      by_cases hj : j < s.length
      · obtain ⟨q3, q4⟩ := old hj e3 e4 e6
        exact r.inj i j v v' a q1 e2 q3 e4 q2 q4
      · obtain ⟨_, _, q3⟩ := new hj e3 e6
        obtain ⟨ho, h1, _⟩ := r.live i v a q1 e2 q2
        rw [q3, hp] at h1
        cases h1
    · obtain ⟨k1, _, k3⟩ := new hi e1 e5
      by_cases hj : j < s.length
      · obtain ⟨q1, q2⟩ := old hj e3 e4 e6
        obtain ⟨ho, h1, _⟩ := r.live j v' a q1 e4 q2
        rw [k3, hp] at h1
        cases h1
      · obtain ⟨k4, _, _⟩ := new hj e3 e6
        rw [k1, k4]
/-- a changing object is changed -/
theorem RS.write {w : Wd} {s : Sto} {H : Hp} (r : RS T w s H) {i : Nat} {a : Addr} {o o' : O} {ho : HO} (e : s[i]? = some o) (ne : o ≠ .dead) (ea : w.io[i]? = some a) (ro : RO T w.G o' ho) : RS T w (s.set i o') (upd H a ho) := by
  obtain ⟨h0, a1, a2, a3, a4⟩ := r.live i o a e ne ea
  have il : i < s.length := (List.getElem?_eq_some_iff.mp e).1
  refine ⟨fun b v q => ?_, fun b v q => ?_, r.gz, by simp [r.len], fun j v b e1 e2 e3 => ?_, fun j k v v' b e1 e2 e3 e4 e5 e6 => ?_⟩
  · rw [upd_ne (ne_of_none q a3)]
    exact r.g _ _ q
  · rw [upd_ne (ne_of_none q a4)]
    exact r.z _ _ q
  · by_cases hj : i = j
    · subst hj
      rw [ea] at e3
      cases e3
      rw [List.getElem?_set_self il] at e1
      cases e1
      exact ⟨ho, upd_same, ro, a3, a4⟩
    · rw [List.getElem?_set_ne hj] at e1
      obtain ⟨hb, q1, q2, q3, q4⟩ := r.live j v b e1 e2 e3
      have hne : b ≠ a := fun z => hj (r.inj i j o v a e ne e1 e2 ea (by rw [← z]; exact e3))
      exact ⟨hb, by rw [upd_ne hne]; exact q1, q2, q3, q4⟩
  · have back : ∀ (m : Nat) (v : O), (s.set i o')[m]? = some v → v ≠ .dead → ∃ v0, s[m]? = some v0 ∧ v0 ≠ .dead := fun m v q1 q2 => by
      by_cases hm : i = m
      · subst hm
        exact ⟨o, e, ne⟩
      · rw [List.getElem?_set_ne hm] at q1
        exact ⟨v, q1, q2⟩
    obtain ⟨v0, k1, k2⟩ := back j v e1 e2
    obtain ⟨v1, k3, k4⟩ := back k v' e3 e4
    exact r.inj j k v0 v1 b k1 k2 k3 k4 e5 e6
theorem mkL_ok {W : WX} {st : L2.St} {w : Wd} {m : Bool} {xs : List D} {vs : List V} {s : Sto} {H : Hp} {Q : VK} (p : PostE T W st w (mkL m xs s) Q) (r : RS T w s H) (x : Rs T w.G xs vs) (a : Addr) (ha : H a = none) : Q (.ref a) (upd H a (.lst vs)) := by
  unfold mkL at p
  cases m with
  | true =>
    rw [if_pos rfl] at p
    obtain ⟨l, r'⟩ := r.laidO ha (u := .lst xs) (o := .lst vs) ⟨vs, rfl, x⟩
    refine p _ _ _ l ⟨a, ?_, rfl⟩ r'
    show (w.io ++ [a])[s.length]? = some a
    rw [← r.len]
    simp
  | false =>
    rw [if_neg Bool.false_ne_true] at p
    obtain ⟨l, r'⟩ := r.laidG ha (.lst vs)
    refine p _ _ _ l ?_ r'
    show R T _ _ _
    unfold R
    exact ⟨a, vs, rfl, upd_same, Rs.mono l.g x⟩
theorem mkT_ok {W : WX} {st : L2.St} {w : Wd} {xs : List D} {vs : List V} {s : Sto} {H : Hp} {Q : VK} (p : PostE T W st w (.ok (.d (.tup xs)) s) Q) (r : RS T w s H) (x : Rs T w.G xs vs) (a : Addr) (ha : H a = none) : Q (.ref a) (upd H a (.tup vs)) := by
  obtain ⟨l, r'⟩ := r.laidG ha (.tup vs)
  refine p _ _ _ l ?_ r'
  show R T _ _ _
  unfold R
  exact ⟨a, vs, rfl, .of upd_same, Rs.mono l.g x⟩

/-! ### looking at values -/
/-- a list's items, a changing one's too -/
def viewL : Xv → Sto → Option (List D)
  | .d (.lst xs), _ => some xs
  | .ref i, s => match s[i]? with | some (.lst xs) => some xs | _ => none
  | _, _ => none
def viewT : Xv → Option (List D)
  | .d (.tup xs) => some xs
  | _ => none
theorem viewL_ok {w : Wd} {s : Sto} {H : Hp} {x : Xv} {u : V} {xs : List D} (r : RS T w s H) (e : RX T w x u) (h : viewL x s = some xs) : ∃ a vs, u = .ref a ∧ H a = some (.lst vs) ∧ Rs T w.G xs vs := by
  unfold viewL at h
  split at h
  · cases h
    have e' : R T w.G (.lst xs) u := e
    unfold R at e'
    obtain ⟨a, vs, e1, e2, e3⟩ := e'
    exact ⟨a, vs, e1, r.g _ _ e2, e3⟩
  · rename_i i s'
    split at h
    · rename_i q
      cases h
      obtain ⟨a, e1, e2⟩ := e
      obtain ⟨ho, h1, ⟨vs, h2, h3⟩, _⟩ := r.live _ _ a q (fun z => nomatch z) e1
      exact ⟨a, vs, e2, by rw [h1, h2], h3⟩
    · cases h
  · cases h
theorem viewT_ok {w : Wd} {s : Sto} {H : Hp} {x : Xv} {u : V} {xs : List D} (r : RS T w s H) (e : RX T w x u) (h : viewT x = some xs) : ∃ a vs, u = .ref a ∧ SqT T.K H a vs ∧ Rs T w.G xs vs := by
  unfold viewT at h
  split at h
  · cases h
    have e' : R T w.G (.tup xs) u := e
    unfold R at e'
    obtain ⟨a, vs, e1, e2, e3⟩ := e'
    exact ⟨a, vs, e1, sqT_mono r.g e2, e3⟩
  · cases h
theorem R_int {G : Hp} {i : Int} {v : V} (h : R T G (.int i) v) : v = .int i := by unfold R at h; exact h
theorem R_str {G : Hp} {i : Str} {v : V} (h : R T G (.str i) v) : v = .str i := by unfold R at h; exact h
theorem R_bl {G : Hp} {i : Bool} {v : V} (h : R T G (.bl i) v) : v = .bl i := by unfold R at h; exact h
theorem R_non {G : Hp} {v : V} (h : R T G .non v) : v = .non := by unfold R at h; exact h
theorem X_int {w : Wd} {i : Int} {v : V} (h : RX T w (.d (.int i)) v) : v = .int i := R_int (T := T) (G := w.G) h
theorem X_str {w : Wd} {i : Str} {v : V} (h : RX T w (.d (.str i)) v) : v = .str i := R_str (T := T) (G := w.G) h
theorem X_bl {w : Wd} {i : Bool} {v : V} (h : RX T w (.d (.bl i)) v) : v = .bl i := R_bl (T := T) (G := w.G) h
theorem X_non {w : Wd} {v : V} (h : RX T w (.d .non) v) : v = .non := R_non (T := T) (G := w.G) h
theorem rX_int {w : Wd} {i : Int} : RX T w (.d (.int i)) (.int i) := by show R T _ _ _; unfold R; rfl
theorem rX_str {w : Wd} {i : Str} : RX T w (.d (.str i)) (.str i) := by show R T _ _ _; unfold R; rfl
theorem rX_bl {w : Wd} {i : Bool} : RX T w (.d (.bl i)) (.bl i) := by show R T _ _ _; unfold R; rfl
theorem rX_non {w : Wd} : RX T w (.d .non) .non := by show R T _ _ _; unfold R; rfl

/-! ### names, constants -/
def varF (i : Nat) : FE := fun ρ s => match ρ[i]? with | some (some v) => .ok v s | _ => .stuck
def litF (d : D) : FE := fun _ s => .ok (.d d) s
theorem rd_var {W : WX} {i : Nat} {st : L2.St} {H : Hp} {Q : VK} (h : rdE T W (varF i) st H Q) : tVar i st H Q := by
  obtain ⟨w, r, s, e, k, p⟩ := h
  unfold varF at p
  split at p
  · rename_i v q
    obtain ⟨u, e1, e2⟩ := e.at_ _ _ q
    exact ⟨u, e1, postE_ok p e2 k⟩
  · exact p.elim
theorem pf_var {X : Cx} {W : WX} (i : Nat) {x : Str} {pos : Pos} (hN : X.N[i]? = some x := by rfl) (hv : Vis X.env.scope x := by first | exact Or.inl rfl | exact Or.inr (Or.inl rfl) | exact Or.inr (Or.inr rfl)) (hd : (x == ("__debug__" : Str)) = false := by decide)
    (hcd : (x == ("__classdict__" : Str)) = false := by decide) : PF T X W (.Name x pos) (varF i) := PE.imp (pe_var hN hv hd hcd) fun _ _ _ => rd_var
theorem rd_lit {W : WX} {d : D} {v : V} (hr : ∀ G, R T G d v) {st : L2.St} {H : Hp} {Q : VK} (h : rdE T W (litF d) st H Q) : tC v st H Q := by
  obtain ⟨w, r, s, e, k, p⟩ := h
  exact postE_ok p (hr _) k
theorem pf_int {X : Cx} {W : WX} {i j pos} : PF T X W (.Constant (.int i) j pos) (litF (.int i)) := PE.imp pe_int fun _ _ _ => rd_lit fun G => by unfold R; rfl
theorem pf_bl {X : Cx} {W : WX} {i j pos} : PF T X W (.Constant (.bool i) j pos) (litF (.bl i)) := PE.imp pe_bl fun _ _ _ => rd_lit fun G => by unfold R; rfl
theorem pf_str {X : Cx} {W : WX} {i j pos} : PF T X W (.Constant (.str i) j pos) (litF (.str i)) := PE.imp pe_str fun _ _ _ => rd_lit fun G => by unfold R; rfl
theorem pf_non {X : Cx} {W : WX} {j pos} : PF T X W (.Constant .none j pos) (litF .non) := PE.imp pe_non fun _ _ _ => rd_lit fun G => by unfold R; rfl
/-- a constant of the module: a number, a text -/
theorem pf_gint {X : Cx} {W : WX} {x : Str} {i : Int} {t : Tok} {pos : Pos} (hm : X.mg x = some (.int i t)) (hg : Gl X x := by rfl) (hd : (x == ("__debug__" : Str)) = false := by decide) : PF T X W (.Name x pos) (litF (.int i)) :=
  PE.imp (pe_glob (v := .int i) hg hm ⟨_, rfl⟩ hd) fun _ _ _ => rd_lit fun G => by unfold R; rfl
theorem pf_gstr {X : Cx} {W : WX} {x : Str} {i : Str} {t : Tok} {pos : Pos} (hm : X.mg x = some (.str i t)) (hg : Gl X x := by rfl) (hd : (x == ("__debug__" : Str)) = false := by decide) : PF T X W (.Name x pos) (litF (.str i)) :=
  PE.imp (pe_glob (v := .str i) hg hm ⟨_, rfl⟩ hd) fun _ _ _ => rd_lit fun G => by unfold R; rfl
theorem pf_gcls {X : Cx} {W : WX} {x : Str} (c : Nat) {pos : Pos} (hm : X.mg x = some (.ref (T.ct c))) (hg : Gl X x := by rfl) (hd : (x == ("__debug__" : Str)) = false := by decide) : PF T X W (.Name x pos) (litF (.cls c)) :=
  PE.imp (pe_glob (v := .ref (T.ct c)) hg hm rfl hd) fun _ _ _ => rd_lit fun G => by unfold R; rfl
theorem pf_gadr {X : Cx} {W : WX} {x : Str} {a : Addr} {pos : Pos} (hm : X.mg x = some (.ref a)) (hg : Gl X x := by rfl) (hd : (x == ("__debug__" : Str)) = false := by decide) : PF T X W (.Name x pos) (litF (.adr a)) :=
  PE.imp (pe_glob (v := .ref a) hg hm rfl hd) fun _ _ _ => rd_lit fun G => by unfold R; rfl
theorem pf_ty {X : Cx} {W : WX} {x : Str} {n : String} {pos : Pos} (hm : X.mg x = none) (hv : bootBuiltins x = some (.type n)) (hg : Gl X x := by rfl) (hn : x ≠ "__name__" := by decide) (hd : (x == ("__debug__" : Str)) = false := by decide) : PF T X W (.Name x pos) (litF (.ty n)) :=
  PE.imp (pe_bltn (v := .ty n) hg hm hv rfl hn hd) fun _ _ _ => rd_lit fun G => by unfold R; rfl

/-! ### operations on two values -/
def op2F (o : Xv → Xv → Sto → Res) (f g : FE) : FE := fun ρ s => (f ρ s).bind fun x s1 => (g ρ s1).bind fun y s2 => o x y s2
/-- the rule r serves o -/
def Op2 (T : Tx) (W : WX) (r : R2) (o : Xv → Xv → Sto → Res) : Prop := ∀ (st : L2.St) (w : Wd) (x y : Xv) (u v : V) (s : Sto) (H : Hp) (Q : VK), RX T w x u → RX T w y v → RS T w s H → PostE T W st w (o x y s) Q → r u v H Q
theorem rdE_mono {W : WX} {f : FE} {st : L2.St} {H : Hp} {Q Q' : VK} (h : rdE T W f st H Q) (k : ∀ u H, Q u H → Q' u H) : rdE T W f st H Q' := by
  obtain ⟨w, ρ, s, e, q, p⟩ := h
  refine ⟨w, ρ, s, e, q, ?_⟩
  revert p
  cases f ρ s with
  | ok v s1 => exact fun p w1 u H1 l x y => k _ _ (p w1 u H1 l x y)
  | exc a b => exact fun p => p
  | stuck => exact fun p => p
theorem rdA_mono {W : WX} {f : FA} {st : L2.St} {H : Hp} {Q Q' : List V → Hp → Prop} (h : rdA T W f st H Q) (k : ∀ u H, Q u H → Q' u H) : rdA T W f st H Q' := by
  obtain ⟨w, ρ, s, e, q, p⟩ := h
  refine ⟨w, ρ, s, e, q, ?_⟩
  revert p
  cases f ρ s with
  | ok v s1 => exact fun p w1 u H1 l x y => k _ _ (p w1 u H1 l x y)
  | exc a b => exact fun p => p
  | stuck => exact fun p => p
theorem rdT_mono {W : WX} {f : FE} {st : L2.St} {H : Hp} {Q Q' : Bool → Hp → Prop} (h : rdT T W f st H Q) (k : ∀ u H, Q u H → Q' u H) : rdT T W f st H Q' := by
  obtain ⟨w, ρ, s, e, q, p⟩ := h
  refine ⟨w, ρ, s, e, q, ?_⟩
  revert p
  cases f ρ s with
  | ok v s1 => exact fun ⟨b, eb, p⟩ => ⟨b, eb, fun w1 H1 l y => k _ _ (p w1 H1 l y)⟩
  | exc a b => exact fun p => p
  | stuck => exact fun p => p
theorem rd_op2 {W : WX} {r : R2} {o : Xv → Xv → Sto → Res} {f g : FE} (h : Op2 T W r o) {st : L2.St} {H : Hp} {Q : VK} (k : rdE T W (op2F o f g) st H Q) : tOp r (rdE T W f) (rdE T W g) st H Q := by
  obtain ⟨w, ρ, s, e, q, p⟩ := k
  exact rdE_mono (postE_bind e q p) fun u H1 ⟨w1, x, s1, l1, e1, x1, r1, p1⟩ => rdE_mono (postE_bind e1 r1 p1) fun v H2 ⟨w2, y, s2, l2, e2, x2, r2, p2⟩ => h st w2 x y u v s2 H2 Q (x1.mono l2) x2 r2 p2
theorem pf_op {X : Cx} {W : WX} {op : Operator} {r : R2} {o : Xv → Xv → Sto → Res} {a b : Expr} {f g : FE} {pos : Pos} (ho : OpR X (binaryOp op) r) (h : Op2 T W r o) (ha : PF T X W a f) (hb : PF T X W b g) : PF T X W (.BinOp a op b pos) (op2F o f g) := PE.imp (pe_op ho ha hb) fun _ _ _ => rd_op2 h
theorem pf_cmp {X : Cx} {W : WX} {op : CmpOp} {r : R2} {o : Xv → Xv → Sto → Res} {a b : Expr} {f g : FE} {pos : Pos} (ho : OpR X (compareOp op) r) (h : Op2 T W r o) (ha : PF T X W a f) (hb : PF T X W b g) (hm : behindInMarks op b = false) : PF T X W (.Compare a [op] [b] pos) (op2F o f g) := PE.imp (pe_cmpR ho ha hb hm) fun _ _ _ => rd_op2 h

/-! ### tests -/
theorem rdT_of {W : WX} {f : FE} {st : L2.St} {H : Hp} {Q : Bool → Hp → Prop} (h : rdT T W f st H Q) : rdE T W f st H fun u H1 => ∃ w v s b, RX T w v u ∧ RS T w s H1 ∧ truth v s = some b ∧ Q b H1 := by
  obtain ⟨w, ρ, s, e, q, p⟩ := h
  refine ⟨w, ρ, s, e, q, ?_⟩
  revert p
  cases f ρ s with
  | ok v s1 => exact fun ⟨b, eb, p⟩ w1 u H1 l x y => ⟨w1, v, s1, b, x, y, eb, p w1 H1 l y⟩
  | exc a b => exact fun p => p
  | stuck => exact fun p => p
theorem truth_ok {w : Wd} {v : Xv} {u : V} {s : Sto} {H : Hp} {b : Bool} (x : RX T w v u) (r : RS T w s H) (e : truth v s = some b) : TruV T.K u H b := by
  unfold truth at e
  split at e
  · cases e
    cases X_non x
    rfl
  · cases e
    cases X_bl x
    rfl
  · cases e
    cases X_int x
    rfl
  · rename_i s' xs
    cases e
    obtain ⟨a, vs, e1, e2, e3⟩ := viewT_ok (xs := xs) r x rfl
    subst e1
    refine .inr (.inl ⟨vs, e2, ?_⟩)
    have hl := e3.length
    cases xs with
    | nil => cases vs with
      | nil => rfl
      | cons _ _ => simp at hl
    | cons _ _ => cases vs with
      | nil => simp at hl
      | cons _ _ => rfl
  · rename_i s' xs
    cases e
    obtain ⟨a, vs, e1, e2, e3⟩ := viewL_ok (xs := xs) r x rfl
    subst e1
    refine .inl ⟨vs, .of e2, ?_⟩
    have hl := e3.length
    cases xs with
    | nil => cases vs with
      | nil => rfl
      | cons _ _ => simp at hl
    | cons _ _ => cases vs with
      | nil => simp at hl
      | cons _ _ => rfl
  · cases e
/-- any expression, by its value's truth -/
theorem pft_of {X : Cx} {W : WX} {e : Expr} {f : FE} (hK : X.K = T.K) (h : PF T X W e f) (he : ∀ whole, isTrue e X.env whole = (do let v ← whole; standAt e.pos; holding [v] (truthy v)) := by intro _; rfl) : PFT T X W e f :=
  PT.imp (pt_truth h he) fun st H Q k => rdE_mono (rdT_of k) fun u H1 ⟨w, v, s, b, x, r, e, q⟩ => ⟨b, by rw [hK]; exact truth_ok x r e, q⟩
theorem truth_bl {w : Wd} {v : Xv} {s : Sto} {b : Bool} {k : Bool} (x : RX T w v (.bl k)) (e : truth v s = some b) : b = k := by
  unfold truth at e
  split at e
  · cases X_non x
  · cases e
    cases X_bl x
    rfl
  · cases X_int x
  · have x' : R T _ _ _ := x
    unfold R at x'
    obtain ⟨a, vs, e1, _⟩ := x'
    cases e1
  · have x' : R T _ _ _ := x
    unfold R at x'
    obtain ⟨a, vs, e1, _⟩ := x'
    cases e1
  · cases e
/-- a comparison's answer is a truth value -/
def Bl2 (o : Xv → Xv → Sto → Res) : Prop := ∀ x y s, (∃ b s', o x y s = .ok (.d (.bl b)) s') ∨ o x y s = .stuck
theorem pft_cmp {X : Cx} {W : WX} {op : CmpOp} {r : R2} {o : Xv → Xv → Sto → Res} {a b : Expr} {f g : FE} {pos : Pos} (ho : OpR X (compareOp op) r) (h : Op2 T W r o) (hb' : Bl2 o) (ha : PF T X W a f) (hb : PF T X W b g) (hm : behindInMarks op b = false) : PFT T X W (.Compare a [op] [b] pos) (op2F o f g) := by
  refine PT.imp (pt_cmpR ho ha hb hm) fun st H Q k => ?_
  have k' : rdE T W (op2F o f g) st H fun u H1 => ∃ k, u = .bl k ∧ Q k H1 := by
    obtain ⟨w, ρ, s, e, q, p⟩ := k
    refine ⟨w, ρ, s, e, q, ?_⟩
    revert p
    unfold op2F
    cases f ρ s with
    | exc a b => exact fun p => p
    | stuck => exact fun p => p
    | ok x s1 =>
      show PostT T W st w ((g ρ s1).bind fun y s2 => o x y s2) Q → PostE T W st w ((g ρ s1).bind fun y s2 => o x y s2) _
      cases g ρ s1 with
      | exc a b => exact fun p => p
      | stuck => exact fun p => p
      | ok y s2 =>
        show PostT T W st w (o x y s2) Q → PostE T W st w (o x y s2) _
        rcases hb' x y s2 with ⟨b, s', e⟩ | e
        · rw [e]
          rintro ⟨b', e', p⟩ w1 u H1 l x1 y1
          cases e'
          exact ⟨b, X_bl x1, p w1 H1 l y1⟩
        · rw [e]
          exact fun p => p
  exact rd_op2 h k'
end
end FL

set_option Elab.async false
set_option linter.all false
set_option maxRecDepth 100000
set_option maxHeartbeats 4000000
namespace FL
open PySem PySem.Spec PyProof.Rows L2
section
variable {T : Tx}
/-! ### arithmetic -/
def okI (i : Int) (s : Sto) : Res := .ok (.d (.int i)) s
def okB (b : Bool) (s : Sto) : Res := .ok (.d (.bl b)) s
theorem okI_q {W : WX} {st : L2.St} {w : Wd} {s : Sto} {H : Hp} {Q : VK} {i : Int} (p : PostE T W st w (okI i s) Q) (r : RS T w s H) : Q (.int i) H := postE_ok p rX_int r
theorem okB_q {W : WX} {st : L2.St} {w : Wd} {s : Sto} {H : Hp} {Q : VK} {i : Bool} (p : PostE T W st w (okB i s) Q) (r : RS T w s H) : Q (.bl i) H := postE_ok p rX_bl r
/-- a sum: numbers, texts, lists, tuples -/
def addX (m : Bool) (x y : Xv) (s : Sto) : Res := match x, y with
  | .d (.int i), .d (.int j) => okI (i + j) s
  | .d (.str a), .d (.str b) => if a.length + b.length ≤ sizeLine then .ok (.d (.str (a ++ b))) s else .stuck
  | .d (.tup a), .d (.tup b) => if a.length + b.length ≤ sizeLine then .ok (.d (.tup (a ++ b))) s else .stuck
  | x, y => match viewL x s, viewL y s with
    | some a, some b => if a.length + b.length ≤ sizeLine then mkL m (a ++ b) s else .stuck
    | _, _ => .stuck
def rAddI : R2 := rI0 fun i j => .int (i + j)
def rAddS : R2 := fun x y H Q => ∃ i j, x = .str i ∧ y = .str j ∧ i.length + j.length ≤ sizeLine ∧ Q (.str (i ++ j)) H
theorem op_addAll {X : Cx} : OpR X (binaryOp .Add) (fun x y H Q => rAddI x y H Q ∨ rAddS x y H Q ∨ rCatA X.K x y H Q ∨ rCat x y H Q) := op_add.or (op_add_str.or (op_catA.or op_cat))
theorem add_ok {W : WX} {m : Bool} : Op2 T W (fun x y H Q => rAddI x y H Q ∨ rAddS x y H Q ∨ rCatA T.K x y H Q ∨ rCat x y H Q) (addX m) := by
  intro st w x y u v s H Q hx hy r p
  unfold addX at p
  split at p
  · cases X_int hx
    cases X_int hy
    exact .inl ⟨_, _, rfl, rfl, okI_q p r⟩
  · cases X_str hx
    cases X_str hy
    split at p
    · exact .inr (.inl ⟨_, _, rfl, rfl, by assumption, postE_ok p rX_str r⟩)
    · exact p.elim
  · rename_i a b
    split at p
    · rename_i hl
      obtain ⟨pa, va, e1, e2, e3⟩ := viewT_ok (xs := a) r hx rfl
      obtain ⟨pb, vb, f1, f2, f3⟩ := viewT_ok (xs := b) r hy rfl
      subst e1 f1
      have l1 := e3.length
      have l2 := f3.length
      refine .inr (.inr (.inl ⟨pa, pb, va, vb, rfl, rfl, e2, f2, by rw [← l1, ← l2]; exact hl, fun z => ?_, fun _ z => ?_, fun _ _ q hq => ?_⟩))
      · subst z
        simp at l1
        subst l1
        exact postE_ok p hy r
      · subst z
        simp at l2
        subst l2
        rw [List.append_nil] at p
        exact postE_ok p hx r
      · exact mkT_ok p r (e3.append f3) q hq
    · exact p.elim
  · split at p
    · rename_i a b h1 h2
      split at p
      · rename_i hl
        obtain ⟨pa, va, e1, e2, e3⟩ := viewL_ok r hx h1
        obtain ⟨pb, vb, f1, f2, f3⟩ := viewL_ok r hy h2
        subst e1 f1
        have l1 := e3.length
        have l2 := f3.length
        exact .inr (.inr (.inr ⟨pa, pb, va, vb, rfl, rfl, e2, f2, by rw [← l1, ← l2]; exact hl, fun q hq => mkL_ok p r (e3.append f3) q hq⟩))
      · exact p.elim
    · exact p.elim
theorem pf_add {X : Cx} {W : WX} {a b : Expr} {f g : FE} {pos : Pos} (m : Bool) (hK : X.K = T.K) (ha : PF T X W a f) (hb : PF T X W b g) : PF T X W (.BinOp a .Add b pos) (op2F (addX m) f g) :=
  pf_op op_addAll (by rw [hK]; exact add_ok) ha hb
def int2 (c : Int → Int → Bool) (k : Int → Int → D) (x y : Xv) (s : Sto) : Res := match x, y with
  | .d (.int i), .d (.int j) => if c i j = true then .ok (.d (k i j)) s else .stuck
  | _, _ => .stuck
theorem int2_ok {W : WX} {c : Int → Int → Bool} {C : Int → Int → Prop} {k : Int → Int → Int} (hC : ∀ i j, c i j = true → C i j) : Op2 T W (rI C fun i j => .int (k i j)) (int2 c fun i j => .int (k i j)) := by
  intro st w x y u v s H Q hx hy r p
  unfold int2 at p
  split at p
  · cases X_int hx
    cases X_int hy
    split at p
    · rename_i h
      exact ⟨_, _, rfl, rfl, hC _ _ h, postE_ok p rX_int r⟩
    · exact p.elim
  · exact p.elim
def cYes (_ _ : Int) : Bool := true
def subX : Xv → Xv → Sto → Res := int2 cYes fun i j => .int (i - j)
theorem op_sub' {X : Cx} : OpR X (binaryOp .Sub) (rI (fun _ _ => True) fun i j => .int (i - j)) := opI fun _ _ _ _ _ _ _ _ q => sub_int q
theorem pf_sub {X : Cx} {W : WX} {a b : Expr} {f g : FE} {pos : Pos} (ha : PF T X W a f) (hb : PF T X W b g) : PF T X W (.BinOp a .Sub b pos) (op2F subX f g) := pf_op op_sub' (int2_ok fun _ _ _ => True.intro) ha hb
def cDiv (_ j : Int) : Bool := decide (0 < j) && decide (j.natAbs.log2 < 9000)
def fdivX : Xv → Xv → Sto → Res := int2 cDiv fun i j => .int (i / j)
theorem pf_fdiv {X : Cx} {W : WX} {a b : Expr} {f g : FE} {pos : Pos} (ha : PF T X W a f) (hb : PF T X W b g) : PF T X W (.BinOp a .FloorDiv b pos) (op2F fdivX f g) :=
  pf_op op_fdivW (int2_ok fun i j h => by
    unfold cDiv at h
    rw [Bool.and_eq_true] at h
    exact ⟨of_decide_eq_true h.1, of_decide_eq_true h.2⟩) ha hb
def cPos (_ j : Int) : Bool := decide (0 < j)
def modX : Xv → Xv → Sto → Res := int2 cPos fun i j => .int (i % j)
theorem pf_mod {X : Cx} {W : WX} {a b : Expr} {f g : FE} {pos : Pos} (ha : PF T X W a f) (hb : PF T X W b g) : PF T X W (.BinOp a .Mod b pos) (op2F modX f g) := pf_op op_mod (int2_ok fun _ _ h => of_decide_eq_true h) ha hb
def CPw (i j : Int) : Prop := 0 ≤ j ∧ (Builtin.Int.intBits i : Int) * j ≤ 2 ^ 27
def cPow (i j : Int) : Bool := decide (0 ≤ j) && decide ((Builtin.Int.intBits i : Int) * j ≤ 2 ^ 27)
def powX : Xv → Xv → Sto → Res := int2 cPow fun i j => .int (i ^ j.toNat)
theorem op_powW {X : Cx} : OpR X (binaryOp .Pow) (rI CPw fun i j => .int (i ^ j.toNat)) := opI fun _ _ _ _ _ _ _ hc q => pow_int hc.1 hc.2 q
theorem pf_pow {X : Cx} {W : WX} {a b : Expr} {f g : FE} {pos : Pos} (ha : PF T X W a f) (hb : PF T X W b g) : PF T X W (.BinOp a .Pow b pos) (op2F powX f g) :=
  pf_op op_powW (int2_ok fun i j h => by
    unfold cPow at h
    rw [Bool.and_eq_true] at h
    exact ⟨of_decide_eq_true h.1, of_decide_eq_true h.2⟩) ha hb

/-! ### products -/
theorem tuple_mulS (l : Addr) (items : Array Value) (n : Nat) (sl : Array (Option Value)) (dd : Option Addr) (x : Int) (u : Tok) (c0 : (decide (x < -(2 ^ 63)) || decide (x ≥ 2 ^ 63)) = false) (c1 : (items.isEmpty || x == 1) = true) :
    Meets (Builtin.«tuple.__mul__» ⟨[.ref l, .int x u], []⟩) (fun _ R s => s.heap.get? l = some { cls := .type "tuple", dict := dd, data := .seq items n, slots := sl } ∧
      R (.ok (.ret (Value.ref l))) { s with heap := s.heap, toks := s.toks }) :=
  .of_wp fun prog w A R s h => by
    obtain ⟨hp, g, d, tk, os⟩ := s
    obtain ⟨hl, h⟩ := h
    have f1 := AutoSeq1.idx_int
    wp_walk using wpAny_loadPart' hl
    repeat (first
      | (refine wpAny_ite_false (decide_eq_false (by rw [c0]; exact Bool.false_ne_true)) ?_; wp_walk using wpAny_loadPart' hl)
      | (refine wpAny_ite_true (decide_eq_true c1) ?_; wp_walk using wpAny_loadPart' hl))
    exact ⟨_, rfl, h⟩
theorem tuple_mulE (l : Addr) (items : Array Value) (n : Nat) (sl : Array (Option Value)) (dd : Option Addr) (x : Int) (u : Tok) (c0 : (decide (x < -(2 ^ 63)) || decide (x ≥ 2 ^ 63)) = false) (c1 : (items.isEmpty || x == 1) = false) (c2 : (decide (x ≤ 0) || items.isEmpty) = true) :
    Meets (Builtin.«tuple.__mul__» ⟨[.ref l, .int x u], []⟩) (fun _ R s => s.heap.get? l = some { cls := .type "tuple", dict := dd, data := .seq items n, slots := sl } ∧
      R (.ok (.ret (Value.ref s.heap.objs.size))) { s with heap := s.heap.push { cls := Value.type "tuple", data := Data.seq #[] }, toks := s.toks }) :=
  .of_wp fun prog w A R s h => by
    obtain ⟨hp, g, d, tk, os⟩ := s
    obtain ⟨hl, h⟩ := h
    have f1 := AutoSeq1.idx_int
    wp_walk using wpAny_loadPart' hl
    repeat (first
      | (refine wpAny_ite_false (decide_eq_false (by rw [c0]; exact Bool.false_ne_true)) ?_; wp_walk using wpAny_loadPart' hl)
      | (refine wpAny_ite_false (decide_eq_false (by rw [c1]; exact Bool.false_ne_true)) ?_; wp_walk using wpAny_loadPart' hl)
      | (refine wpAny_ite_true (decide_eq_true c2) ?_; wp_walk using wpAny_loadPart' hl))
    exact ⟨_, rfl, h⟩
end
end FL

set_option Elab.async false
set_option linter.all false
set_option maxRecDepth 100000
set_option maxHeartbeats 4000000
namespace FL
open PySem PySem.Spec PyProof.Rows L2
section
variable {X : Cx}
def rRepA (K : PySem.W.Frag) : R2 := fun x y H Q => ∃ l k xs, x = .ref l ∧ y = .int k ∧ SqT K H l xs ∧ -1000 ≤ k ∧ k ≤ 1000 ∧ xs.length ≤ 1000 ∧
  ((xs = [] ∨ k = 1) → Q (.ref l) H) ∧ (¬ (xs = [] ∨ k = 1) → ∀ p, H p = none → Q (.ref p) (upd H p (.tup (List.replicate k.toNat xs).flatten)))
theorem op_repA : OpR X (binaryOp .Mult) (rRepA X.K) := by
  intro pins s σ H x y v u Q I rx ry h
  obtain ⟨l, k, xs, rfl, rfl, hT, h1, h2, hz, q1, q2⟩ := h
  by_cases hs : xs = [] ∨ k = 1
  · cases rx
    obtain ⟨t, rfl⟩ := ry
    obtain ⟨its, r, ⟨⟨cls, dd, data, sl⟩, ho, hc, n, hd⟩, hs2⟩ := I.tuple hT
    simp only at hc hd
    subst hc hd
    have c0 : (decide (k < -(2 ^ 63)) || decide (k ≥ 2 ^ 63)) = false := by
      rw [decide_eq_false (by omega), decide_eq_false (by omega)] <;> rfl
    have c1 : (its.toArray.isEmpty || k == 1) = true := by
      rcases hs with e | e
      · subst e
        cases r
        rfl
      · rw [e]
        simp
    refine wpAny_binaryOp_repeat_ref (T := "tuple") (U := "int") (by decide) ⟨_, ho, rfl⟩ (fun s' => typeIs_int s' k t) noFill_tuple_mul F.fills_int_mul F.slot_int_rmul repeat_tuple F.slot_int_index.lookup
      (call_meets F.slot_int_rmul (typeIs_int s k t) F.entry_int_rmul (F.args_int_rmul_2 _ _) (int_rmul_tuple k t l its.toArray n dd sl)
        ⟨ho, rfl, ⟨_, ho, rfl⟩, call_meets F.slot_tuple_mul ⟨_, ho, rfl⟩ F.entry_tuple_mul (F.args_tuple_mul_2 _ _) (tuple_mulS l its.toArray n sl dd k t c0 c1) ⟨ho, ?_⟩⟩)
    exact ⟨.ref l, H, I.tok _, rfl, q1 hs⟩
  · by_cases hk : k ≤ 0
    · cases rx
      obtain ⟨t, rfl⟩ := ry
      obtain ⟨its, r, ⟨⟨cls, dd, data, sl⟩, ho, hc, n, hd⟩, hs2⟩ := I.tuple hT
      simp only at hc hd
      subst hc hd
      have hn : its ≠ [] := fun e => hs (.inl (by subst e; cases r; rfl))
      have c0 : (decide (k < -(2 ^ 63)) || decide (k ≥ 2 ^ 63)) = false := by
        rw [decide_eq_false (by omega), decide_eq_false (by omega)] <;> rfl
      have hi : its.toArray.isEmpty = false := by
        cases its with
        | nil => exact absurd rfl hn
        | cons a b => rfl
      have c1 : (its.toArray.isEmpty || k == 1) = false := by
        rw [hi, Bool.false_or]
        exact beq_eq_false_iff_ne.mpr (by omega)
      have c2 : (decide (k ≤ 0) || its.toArray.isEmpty) = true := by
        rw [decide_eq_true hk]
        rfl
      have e0 : (List.replicate k.toNat xs).flatten = ([] : List V) := by
        rw [show k.toNat = 0 by omega]
        rfl
      have q3 := q2 hs
      rw [e0] at q3
      refine wpAny_binaryOp_repeat_ref (T := "tuple") (U := "int") (by decide) ⟨_, ho, rfl⟩ (fun s' => typeIs_int s' k t) noFill_tuple_mul F.fills_int_mul F.slot_int_rmul repeat_tuple F.slot_int_index.lookup
        (call_meets F.slot_int_rmul (typeIs_int s k t) F.entry_int_rmul (F.args_int_rmul_2 _ _) (int_rmul_tuple k t l its.toArray n dd sl)
          ⟨ho, rfl, ⟨_, ho, rfl⟩, call_meets F.slot_tuple_mul ⟨_, ho, rfl⟩ F.entry_tuple_mul (F.args_tuple_mul_2 _ _) (tuple_mulE l its.toArray n sl dd k t c0 c1 c2) ⟨ho, ?_⟩⟩)
      refine ⟨.ref s.heap.objs.size, _, I.laid (t' := s.toks) (o := .tup []) (fun b ob q => Heap.get?_push_of_some _ q) (Nat.le_refl _) ?_, rfl, q3 _ (I.hok.fresh (Nat.le_refl _))⟩
      exact ⟨Nat.zero_le _, [], .nil, IsTup.new _ _⟩
    · exact op_repT pins s σ H _ _ v u Q I rx ry ⟨l, k, xs, rfl, rfl, hT, fun e => hs (.inl e), by
        have : k ≠ 1 := fun e => hs (.inr e)
        omega, h2, hz, q2 hs⟩
end
section
variable {T : Tx}
theorem Rs.rep {G : Hp} {xs : List D} {vs : List V} (h : Rs T G xs vs) : ∀ k : Nat, Rs T G (List.replicate k xs).flatten (List.replicate k vs).flatten
  | 0 => by show Rs T G [] []; unfold Rs; rfl
  | k + 1 => by
    rw [List.replicate_succ, List.flatten_cons, List.replicate_succ, List.flatten_cons]
    exact h.append (Rs.rep h k)
/-- a product: numbers; a list or a tuple some times -/
def mulX (m : Bool) (x y : Xv) (s : Sto) : Res := match x, y with
  | .d (.int i), .d (.int j) => if i.natAbs.log2 + j.natAbs.log2 < 1000000 then okI (i * j) s else .stuck
  | .d (.tup a), .d (.int k) => if -1000 ≤ k ∧ k ≤ 1000 ∧ a.length ≤ 1000 then .ok (.d (.tup (List.replicate k.toNat a).flatten)) s else .stuck
  | x, .d (.int k) => match viewL x s with
    | some a => if -1000000 ≤ k ∧ k ≤ 1000000 ∧ a.length * k.toNat ≤ 1000000 then mkL m (List.replicate k.toNat a).flatten s else .stuck
    | _ => .stuck
  | _, _ => .stuck
def rMulI : R2 := rI CMulW fun i j => .int (i * j)
theorem op_mulAll {X : Cx} : OpR X (binaryOp .Mult) (fun x y H Q => rMulI x y H Q ∨ rRepA X.K x y H Q ∨ rRep x y H Q) := op_mulW.or (op_repA.or op_rep)
theorem len_rep {α : Type} (xs : List α) (k : Nat) : (List.replicate k xs).flatten.length = k * xs.length := PyProof.Rows.lm_len_rep_flat _ _
theorem mul_ok {W : WX} {m : Bool} : Op2 T W (fun x y H Q => rMulI x y H Q ∨ rRepA T.K x y H Q ∨ rRep x y H Q) (mulX m) := by
  intro st w x y u v s H Q hx hy r p
  unfold mulX at p
  split at p
  · cases X_int hx
    cases X_int hy
    split at p
    · exact .inl ⟨_, _, rfl, rfl, by assumption, okI_q p r⟩
    · exact p.elim
  · rename_i a k
    cases X_int hy
    split at p
    · rename_i hb
      obtain ⟨pa, va, e1, e2, e3⟩ := viewT_ok (xs := a) r hx rfl
      subst e1
      have l1 := e3.length
      refine .inr (.inl ⟨pa, k, va, rfl, rfl, e2, hb.1, hb.2.1, by rw [← l1]; exact hb.2.2, fun z => ?_, fun z q hq => mkT_ok p r (e3.rep k.toNat) q hq⟩)
      have e : (List.replicate k.toNat a).flatten = a := by
        rcases z with z | z
        · subst z
          have ha : a = [] := List.eq_nil_of_length_eq_zero l1
          subst ha
          simp
        · subst z
          simp
      rw [e] at p
      exact postE_ok p hx r
    · exact p.elim
  · rename_i k _ _
    cases X_int hy
    split at p
    · rename_i a h1
      split at p
      · rename_i hb
        obtain ⟨pa, va, e1, e2, e3⟩ := viewL_ok r hx h1
        subst e1
        have l1 := e3.length
        refine .inr (.inr ⟨pa, k, va, rfl, rfl, e2, by omega, by omega, ?_, fun q hq => mkL_ok p r (e3.rep k.toNat) q hq⟩)
        rw [← l1, sizeLine_eq]
        omega
      · exact p.elim
    · exact p.elim
  · exact p.elim
theorem pf_mul {X : Cx} {W : WX} {a b : Expr} {f g : FE} {pos : Pos} (m : Bool) (hK : X.K = T.K) (ha : PF T X W a f) (hb : PF T X W b g) : PF T X W (.BinOp a .Mult b pos) (op2F (mulX m) f g) :=
  pf_op op_mulAll (by rw [hK]; exact mul_ok) ha hb
/-- -a -/
def negF (f : FE) : FE := fun ρ s => (f ρ s).bind fun x s1 => match x with | .d (.int i) => okI (-i) s1 | _ => .stuck
theorem pf_neg {X : Cx} {W : WX} {a : Expr} {f : FE} {pos : Pos} (ha : PF T X W a f) : PF T X W (.UnaryOp .USub a pos) (negF f) :=
  PE.imp (pe_un un_neg ha) fun st H Q ⟨w, ρ, s, e, q, p⟩ => rdE_mono (postE_bind e q p) fun u H1 ⟨w1, x, s1, l1, e1, x1, r1, p1⟩ => by
    split at p1
    · cases X_int x1
      exact ⟨_, rfl, okI_q p1 r1⟩
    · exact p1.elim

/-! ### comparisons -/
theorem int2B_ok {W : WX} {k : Int → Int → Bool} : Op2 T W (rI0 fun i j => .bl (k i j)) (int2 cYes fun i j => .bl (k i j)) := by
  intro st w x y u v s H Q hx hy r p
  unfold int2 at p
  split at p
  · cases X_int hx
    cases X_int hy
    have p' := (if_pos (show cYes _ _ = true from rfl)) ▸ p
    exact ⟨_, _, rfl, rfl, postE_ok p' rX_bl r⟩
  · exact p.elim
theorem int2_bl {c : Int → Int → Bool} {k : Int → Int → Bool} : Bl2 (int2 c fun i j => .bl (k i j)) := fun x y s => by
  unfold int2
  split
  · split
    · exact .inl ⟨_, _, rfl⟩
    · exact .inr rfl
  · exact .inr rfl
def ltX : Xv → Xv → Sto → Res := int2 cYes fun i j => .bl (decide (i < j))
def leX : Xv → Xv → Sto → Res := int2 cYes fun i j => .bl (decide (i ≤ j))
def gtX : Xv → Xv → Sto → Res := int2 cYes fun i j => .bl (decide (j < i))
def geX : Xv → Xv → Sto → Res := int2 cYes fun i j => .bl (decide (j ≤ i))
/-! the plain data of a datum -/
mutual
def toP : D → PyData
  | .bl b => .bool b
  | .int i => .int i
  | .str x => .str x
  | .tup xs => .tuple (toPs xs)
  | .lst xs => .list (toPs xs)
  | _ => .none
def toPs : List D → List PyData
  | [] => []
  | d :: ds => toP d :: toPs ds
end
/-- plain data of little depth -/
def flatS : Nat → D → Bool
  | _, .non => true
  | _, .bl _ => true
  | _, .int _ => true
  | _, .str x => PyData.canLay0 (.str x)
  | n + 1, .tup xs => xs.all (flatS n)
  | n + 1, .lst xs => xs.all (flatS n)
  | _, _ => false
theorem toPs_lay : ∀ {xs : List D}, (∀ x ∈ xs, (toP x).canLay0 = true) → PyData.canLayAll0 (toPs xs) = true
  | [], _ => by unfold toPs; rfl
  | d :: ds, h => by
    unfold toPs
    unfold PyData.canLayAll0
    rw [h d (List.mem_cons_self ..), toPs_lay fun x hx => h x (List.mem_cons_of_mem _ hx)]
    rfl
theorem toPs_dep {n : Nat} : ∀ {xs : List D}, (∀ x ∈ xs, (toP x).depth ≤ n) → PyData.depthAll (toPs xs) ≤ n
  | [], _ => by unfold toPs; unfold PyData.depthAll; exact Nat.zero_le _
  | d :: ds, h => by
    unfold toPs
    unfold PyData.depthAll
    exact Nat.max_le.mpr ⟨h d (List.mem_cons_self ..), toPs_dep fun x hx => h x (List.mem_cons_of_mem _ hx)⟩
theorem flatS_ok : ∀ {n : Nat} {d : D}, flatS n d = true → (toP d).canLay0 = true ∧ (toP d).depth ≤ n
  | n, .non, _ => by unfold toP; unfold PyData.canLay0 PyData.depth; exact ⟨rfl, Nat.zero_le _⟩
  | n, .bl _, _ => by unfold toP; unfold PyData.canLay0 PyData.depth; exact ⟨rfl, Nat.zero_le _⟩
  | n, .int _, _ => by unfold toP; unfold PyData.canLay0 PyData.depth; exact ⟨rfl, Nat.zero_le _⟩
  | n, .str x, h => by
    have h' : PyData.canLay0 (.str x) = true := by cases n <;> exact h
    unfold toP
    refine ⟨h', ?_⟩
    unfold PyData.depth
    exact Nat.zero_le _
  | 0, .tup xs, h => by cases h
  | 0, .lst xs, h => by cases h
  | n + 1, .tup xs, h => by
    have h' : xs.all (flatS n) = true := h
    rw [List.all_eq_true] at h'
    unfold toP
    unfold PyData.canLay0 PyData.depth
    exact ⟨toPs_lay fun x hx => (flatS_ok (h' x hx)).1, Nat.succ_le_succ (toPs_dep fun x hx => (flatS_ok (h' x hx)).2)⟩
  | n + 1, .lst xs, h => by
    have h' : xs.all (flatS n) = true := h
    rw [List.all_eq_true] at h'
    unfold toP
    unfold PyData.canLay0 PyData.depth
    exact ⟨toPs_lay fun x hx => (flatS_ok (h' x hx)).1, Nat.succ_le_succ (toPs_dep fun x hx => (flatS_ok (h' x hx)).2)⟩
  | n, .ty _, h => by cases n <;> cases h
  | n, .adr _, h => by cases n <;> cases h
  | n, .cls _, h => by cases n <;> cases h
  | n, .scr _, h => by cases n <;> cases h
  | n, .obj _ _ _, h => by cases n <;> cases h
  | n, .exc _ _ _, h => by cases n <;> cases h
theorem flatS_shaped {d : D} (h : flatS 32 d = true) : SeqAt.shaped (toP d) = true := by
  obtain ⟨h1, h2⟩ := flatS_ok h
  unfold SeqAt.shaped
  rw [h1, decide_eq_true (show (toP d).depth ≤ 64 by omega)]
  rfl
mutual
theorem dp_of {K : PySem.W.Frag} {G H : Hp} (hK : K = T.K) (g : Same G H) : ∀ {n : Nat} {d : D} {v : V}, flatS n d = true → R T G d v → Dp K H v (toP d)
  | n, .non, _, _, e => by unfold R at e; subst e; unfold toP; exact .non
  | n, .bl _, _, _, e => by unfold R at e; subst e; unfold toP; exact .bl _
  | n, .int _, _, _, e => by unfold R at e; subst e; unfold toP; exact .int _
  | n, .str x, _, _, e => by unfold R at e; subst e; unfold toP; exact .str _
  | 0, .tup xs, _, h, _ => by cases h
  | 0, .lst xs, _, h, _ => by cases h
  | n + 1, .tup xs, v, h, e => by
    unfold R at e
    obtain ⟨a, vs, e1, e2, e3⟩ := e
    subst e1 hK
    unfold toP
    exact .tup (sqT_mono g e2) (dps_of rfl g (n := n) (List.all_eq_true.mp h) e3)
  | n + 1, .lst xs, v, h, e => by
    unfold R at e
    obtain ⟨a, vs, e1, e2, e3⟩ := e
    subst e1 hK
    unfold toP
    exact .lst (.of (g _ _ e2)) (dps_of rfl g (n := n) (List.all_eq_true.mp h) e3)
  | n, .ty _, _, h, _ => by cases n <;> cases h
  | n, .adr _, _, h, _ => by cases n <;> cases h
  | n, .cls _, _, h, _ => by cases n <;> cases h
  | n, .scr _, _, h, _ => by cases n <;> cases h
  | n, .obj _ _ _, _, h, _ => by cases n <;> cases h
  | n, .exc _ _ _, _, h, _ => by cases n <;> cases h
theorem dps_of {K : PySem.W.Frag} {G H : Hp} (hK : K = T.K) (g : Same G H) : ∀ {n : Nat} {ds : List D} {vs : List V}, (∀ x ∈ ds, flatS n x = true) → Rs T G ds vs → DpAll K H vs (toPs ds)
  | n, [], vs, _, e => by
    unfold Rs at e
    subst e
    unfold toPs
    exact .nil
  | n, d :: ds, vs, h, e => by
    unfold Rs at e
    obtain ⟨v, r, e1, e2, e3⟩ := e
    subst e1
    unfold toPs
    exact .cons (dp_of hK g (h d (List.mem_cons_self ..)) e2) (dps_of hK g (fun x hx => h x (List.mem_cons_of_mem _ hx)) e3)
end
/-- the data that == sees -/
def eqView : Xv → Sto → Option D
  | .d x, _ => some x
  | .ref i, s => match s[i]? with | some (.lst xs) => some (.lst xs) | _ => none
theorem eqView_ok {w : Wd} {s : Sto} {H : Hp} {x : Xv} {u : V} {d : D} {n : Nat} (hK : T.K = T.K) (r : RS T w s H) (e : RX T w x u) (h : eqView x s = some d) (hf : flatS n d = true) : Dp T.K H u (toP d) := by
  cases x with
  | d x =>
    cases h
    exact dp_of rfl r.g hf e
  | ref i =>
    unfold eqView at h
    dsimp only at h
    split at h
    · rename_i xs q
      cases h
      obtain ⟨a, vs, e1, e2, e3⟩ := viewL_ok (xs := xs) r e (by unfold viewL; dsimp only; rw [q])
      subst e1
      cases n with
      | zero => cases hf
      | succ n =>
        unfold toP
        exact .lst (.of e2) (dps_of rfl r.g (List.all_eq_true.mp hf) e3)
    · cases h
def eqX (neg : Bool) (x y : Xv) (s : Sto) : Res := match eqView x s, eqView y s with
  | some a, some b => if (flatS 32 a && flatS 32 b) = true then okB (if neg then !PyData.eqv (toP a) (toP b) else PyData.eqv (toP a) (toP b)) s else .stuck
  | _, _ => .stuck
theorem eq_ok {W : WX} : Op2 T W (rEqD T.K) (eqX false) := by
  intro st w x y u v s H Q hx hy r p
  unfold eqX at p
  split at p
  · rename_i a b h1 h2
    split at p
    · rename_i hf
      rw [Bool.and_eq_true] at hf
      exact ⟨_, _, eqView_ok rfl r hx h1 hf.1, eqView_ok rfl r hy h2 hf.2, flatS_shaped hf.1, flatS_shaped hf.2, okB_q p r⟩
    · exact p.elim
  · exact p.elim
theorem ne_ok {W : WX} : Op2 T W (rNeD T.K) (eqX true) := by
  intro st w x y u v s H Q hx hy r p
  unfold eqX at p
  split at p
  · rename_i a b h1 h2
    split at p
    · rename_i hf
      rw [Bool.and_eq_true] at hf
      exact ⟨_, _, eqView_ok rfl r hx h1 hf.1, eqView_ok rfl r hy h2 hf.2, flatS_shaped hf.1, flatS_shaped hf.2, okB_q p r⟩
    · exact p.elim
  · exact p.elim
theorem eqX_bl {n : Bool} : Bl2 (eqX n) := fun x y s => by
  unfold eqX
  split
  · split
    · exact .inl ⟨_, _, rfl⟩
    · exact .inr rfl
  · exact .inr rfl
/-- is None -/
def isNoneX (neg : Bool) (x y : Xv) (s : Sto) : Res := match y with
  | .d .non => match x with
    | .d .non => okB (!neg) s
    | _ => okB neg s
  | _ => .stuck
theorem isNoneX_bl {n : Bool} : Bl2 (isNoneX n) := fun x y s => by
  unfold isNoneX
  split
  · split
    · exact .inl ⟨_, _, rfl⟩
    · exact .inl ⟨_, _, rfl⟩
  · exact .inr rfl
theorem non_ref {a : Addr} (h : V.non = V.ref a) : False := nomatch h
theorem R_notnon {G : Hp} {d : D} {v : V} (h : R T G d v) (hd : d ≠ .non) : v ≠ .non := by
  intro e
  subst e
  cases d with
  | non => exact hd rfl
  | bl b => unfold R at h; exact nomatch h
  | int b => unfold R at h; exact nomatch h
  | str b => unfold R at h; exact nomatch h
  | ty b => unfold R at h; exact nomatch h
  | adr b => unfold R at h; exact nomatch h
  | cls b => unfold R at h; exact nomatch h
  | tup xs => unfold R at h; obtain ⟨_, _, h, _⟩ := h; exact non_ref h
  | lst xs => unfold R at h; obtain ⟨_, _, h, _⟩ := h; exact non_ref h
  | scr xs => unfold R at h; obtain ⟨_, h, _⟩ := h; exact non_ref h
  | obj c ns xs => unfold R at h; obtain ⟨_, _, _, h, _⟩ := h; exact non_ref h
  | exc c ns xs => unfold R at h; obtain ⟨_, _, _, h, _⟩ := h; exact non_ref h
theorem X_notnon {w : Wd} {x : Xv} {v : V} (h : RX T w x v) (hd : x ≠ .d .non) : v ≠ .non := by
  cases x with
  | d x => exact R_notnon h fun e => hd (by rw [e])
  | ref i =>
    obtain ⟨a, _, e⟩ := h
    rw [e]
    exact fun z => nomatch z
theorem isNone_ok {W : WX} : Op2 T W (fun x y H Q => y = .non ∧ Q (.bl (decide (x = .non))) H) (isNoneX false) := by
  intro st w x y u v s H Q hx hy r p
  unfold isNoneX at p
  split at p
  · cases X_non hy
    split at p
    · cases X_non hx
      exact ⟨rfl, okB_q p r⟩
    · rename_i hn
      refine ⟨rfl, ?_⟩
      rw [decide_eq_false (X_notnon hx hn)]
      exact okB_q p r
  · exact p.elim
theorem notNone_ok {W : WX} : Op2 T W (fun x y H Q => y = .non ∧ Q (.bl (!decide (x = .non))) H) (isNoneX true) := by
  intro st w x y u v s H Q hx hy r p
  unfold isNoneX at p
  split at p
  · cases X_non hy
    split at p
    · cases X_non hx
      exact ⟨rfl, okB_q p r⟩
    · rename_i hn
      refine ⟨rfl, ?_⟩
      rw [decide_eq_false (X_notnon hx hn)]
      exact okB_q p r
  · exact p.elim
/-- is of two truth values -/
def isBlX (neg : Bool) (x y : Xv) (s : Sto) : Res := match x, y with
  | .d (.bl a), .d (.bl b) => okB (if neg then !decide (a = b) else decide (a = b)) s
  | _, _ => .stuck
theorem isBlX_bl {n : Bool} : Bl2 (isBlX n) := fun x y s => by
  unfold isBlX
  split
  · exact .inl ⟨_, _, rfl⟩
  · exact .inr rfl
theorem isBl_ok {W : WX} : Op2 T W rIsB (isBlX false) := by
  intro st w x y u v s H Q hx hy r p
  unfold isBlX at p
  split at p
  · cases X_bl hx
    cases X_bl hy
    exact ⟨_, _, rfl, rfl, okB_q p r⟩
  · exact p.elim
theorem notBl_ok {W : WX} : Op2 T W rNotB (isBlX true) := by
  intro st w x y u v s H Q hx hy r p
  unfold isBlX at p
  split at p
  · cases X_bl hx
    cases X_bl hy
    exact ⟨_, _, rfl, rfl, okB_q p r⟩
  · exact p.elim
end
end FL

set_option Elab.async false
set_option linter.all false
set_option maxRecDepth 100000
set_option maxHeartbeats 4000000
namespace FL
open PySem PySem.Spec PyProof.Rows L2
section
variable {T : Tx} {X : Cx} {W : WX}
abbrev PFW (T : Tx) (X : Cx) (W : WX) (e : Expr) (f : FE) : Prop := PW X e (rdT T W f)
theorem PW.imp {X : Cx} {e : Expr} {t t' : TT} (h : PW X e t) (k : ∀ st H Q, t' st H Q → t st H Q) : PW X e t' := ⟨fun wh pins s σ H Q I q => h.run wh pins s σ H Q I (k _ _ _ q)⟩

/-! ### and, or, not, if-else -/
def andF (f g : FE) : FE := fun ρ s => (f ρ s).bind fun x s1 => match x with | .d (.bl true) => g ρ s1 | .d (.bl false) => okB false s1 | _ => .stuck
def orF (f g : FE) : FE := fun ρ s => (f ρ s).bind fun x s1 => match x with | .d (.bl true) => okB true s1 | .d (.bl false) => g ρ s1 | _ => .stuck
def notF (f : FE) : FE := fun ρ s => (f ρ s).bind fun x s1 => match x with | .d (.bl b) => okB (!b) s1 | _ => .stuck
def ifF (c f g : FE) : FE := fun ρ s => (c ρ s).bind fun x s1 => match truth x s1 with | some true => f ρ s1 | some false => g ρ s1 | none => .stuck
theorem pf_one {op} {a : Expr} {f : FE} {pos : Pos} (h : PF T X W a f) : PF T X W (.BoolOp op [a] pos) f := pe_one h
theorem pf_and {a b : Expr} {rest : List Expr} {f g : FE} {pos : Pos} (ha : PF T X W a f) (hb : PF T X W (.BoolOp .And (b :: rest) pos) g) : PF T X W (.BoolOp .And (a :: b :: rest) pos) (andF f g) :=
  PE.imp (pe_and ha hb) fun st H Q ⟨w, ρ, s, e, q, p⟩ => rdE_mono (postE_bind e q p) fun u H1 ⟨w1, x, s1, l1, e1, x1, r1, p1⟩ => by
    split at p1
    · cases X_bl x1
      exact ⟨true, rfl, by rw [if_pos rfl]; exact ⟨w1, ρ, s1, e1, r1, p1⟩⟩
    · cases X_bl x1
      exact ⟨false, rfl, by rw [if_neg Bool.false_ne_true]; exact okB_q p1 r1⟩
    · exact p1.elim
theorem pf_or {a b : Expr} {rest : List Expr} {f g : FE} {pos : Pos} (ha : PF T X W a f) (hb : PF T X W (.BoolOp .Or (b :: rest) pos) g) : PF T X W (.BoolOp .Or (a :: b :: rest) pos) (orF f g) :=
  PE.imp (pe_or ha hb) fun st H Q ⟨w, ρ, s, e, q, p⟩ => rdE_mono (postE_bind e q p) fun u H1 ⟨w1, x, s1, l1, e1, x1, r1, p1⟩ => by
    split at p1
    · cases X_bl x1
      exact ⟨true, rfl, by rw [if_pos rfl]; exact okB_q p1 r1⟩
    · cases X_bl x1
      exact ⟨false, rfl, by rw [if_neg Bool.false_ne_true]; exact ⟨w1, ρ, s1, e1, r1, p1⟩⟩
    · exact p1.elim
theorem pf_not {a : Expr} {f : FE} {pos : Pos} (ha : PF T X W a f) : PF T X W (.UnaryOp .Not a pos) (notF f) :=
  PE.imp (pe_not ha) fun st H Q ⟨w, ρ, s, e, q, p⟩ => rdE_mono (postE_bind e q p) fun u H1 ⟨w1, x, s1, l1, e1, x1, r1, p1⟩ => by
    split at p1
    · cases X_bl x1
      exact ⟨_, rfl, okB_q p1 r1⟩
    · exact p1.elim
/-- a test bound to what follows -/
theorem postT_bindT {st : L2.St} {w : Wd} {ρ : Env'} {s : Sto} {H : Hp} {f : FE} {k : Xv → Sto → Res} {Q : Bool → Hp → Prop} (e : RE T w ρ st) (r : RS T w s H) (p : PostT T W st w ((f ρ s).bind k) Q) (hk : ∀ x s1, (∃ b, truth x s1 = some b) ∨ k x s1 = .stuck) :
    rdT T W f st H fun b H1 => ∃ w1 v s1, truth v s1 = some b ∧ Le w w1 ∧ RE T w1 ρ st ∧ RS T w1 s1 H1 ∧ PostT T W st w1 (k v s1) Q := by
  refine ⟨w, ρ, s, e, r, ?_⟩
  cases h : f ρ s with
  | ok v s1 =>
    rw [h] at p
    rcases hk v s1 with ⟨b, eb⟩ | ek
    · exact ⟨b, eb, fun w1 H1 l y => ⟨w1, v, s1, eb, l, e.mono l, y, PostT.mono l p⟩⟩
    · have p' : PostT T W st w (k v s1) Q := p
      rw [ek] at p'
      exact p'.elim
  | exc x s1 =>
    rw [h] at p
    exact p
  | stuck =>
    rw [h] at p
    exact p
theorem okB_t {st : L2.St} {w : Wd} {s : Sto} {H : Hp} {Q : Bool → Hp → Prop} {b : Bool} (p : PostT T W st w (okB b s) Q) (r : RS T w s H) : Q b H := by
  obtain ⟨b', e, q⟩ := p
  cases e
  exact q w H (.refl _) r
theorem pfw_and1 {a : Expr} {f : FE} {pos : Pos} (ha : PFT T X W a f) : PFW T X W (.BoolOp .And [a] pos) f := pw_and1 ha
theorem pfw_or1 {a : Expr} {f : FE} {pos : Pos} (ha : PFT T X W a f) : PFW T X W (.BoolOp .Or [a] pos) f := pw_or1 ha
theorem pfw_and {a b : Expr} {rest : List Expr} {f g : FE} {pos : Pos} (ha : PFT T X W a f) (hb : PFW T X W (.BoolOp .And (b :: rest) pos) g) : PFW T X W (.BoolOp .And (a :: b :: rest) pos) (andF f g) :=
  PW.imp (pw_and ha hb) fun st H Q ⟨w, ρ, s, e, q, p⟩ => rdT_mono (postT_bindT e q p (fun x s1 => by
      split
      · exact .inl ⟨true, rfl⟩
      · exact .inl ⟨false, rfl⟩
      · exact .inr rfl)) fun b H1 ⟨w1, x, s1, eb, l1, e1, r1, p1⟩ => by
    split at p1
    · cases eb
      rw [if_pos rfl]
      exact ⟨w1, ρ, s1, e1, r1, p1⟩
    · cases eb
      rw [if_neg Bool.false_ne_true]
      exact okB_t p1 r1
    · exact p1.elim
theorem pfw_or {a b : Expr} {rest : List Expr} {f g : FE} {pos : Pos} (ha : PFT T X W a f) (hb : PFW T X W (.BoolOp .Or (b :: rest) pos) g) : PFW T X W (.BoolOp .Or (a :: b :: rest) pos) (orF f g) :=
  PW.imp (pw_or ha hb) fun st H Q ⟨w, ρ, s, e, q, p⟩ => rdT_mono (postT_bindT e q p (fun x s1 => by
      split
      · exact .inl ⟨true, rfl⟩
      · exact .inl ⟨false, rfl⟩
      · exact .inr rfl)) fun b H1 ⟨w1, x, s1, eb, l1, e1, r1, p1⟩ => by
    split at p1
    · cases eb
      rw [if_pos rfl]
      exact okB_t p1 r1
    · cases eb
      rw [if_neg Bool.false_ne_true]
      exact ⟨w1, ρ, s1, e1, r1, p1⟩
    · exact p1.elim
theorem pft_w {e : Expr} {f : FE} (h : PFW T X W e f) : PFT T X W e f := PW.pt h
theorem pft_not {a : Expr} {f : FE} {pos : Pos} (ha : PFT T X W a f) : PFT T X W (.UnaryOp .Not a pos) (notF f) :=
  PT.imp (pt_not ha) fun st H Q ⟨w, ρ, s, e, q, p⟩ => rdT_mono (postT_bindT e q p (fun x s1 => by
      split
      · exact .inl ⟨_, rfl⟩
      · exact .inr rfl)) fun b H1 ⟨w1, x, s1, eb, l1, e1, r1, p1⟩ => by
    split at p1
    · cases eb
      exact okB_t p1 r1
    · exact p1.elim
/-- not of anything, by its truth -/
def notTF (f : FE) : FE := fun ρ s => (f ρ s).bind fun x s1 => match truth x s1 with | some b => okB (!b) s1 | none => .stuck
theorem pft_notT {a : Expr} {f : FE} {pos : Pos} (ha : PFT T X W a f) : PFT T X W (.UnaryOp .Not a pos) (notTF f) :=
  PT.imp (pt_not ha) fun st H Q ⟨w, ρ, s, e, q, p⟩ => rdT_mono (postT_bindT e q p (fun x s1 => by
      cases h : truth x s1 with
      | some b => exact .inl ⟨_, rfl⟩
      | none => exact .inr rfl)) fun b H1 ⟨w1, x, s1, eb, l1, e1, r1, p1⟩ => by
    rw [eb] at p1
    exact okB_t p1 r1
theorem postE_bindT {st : L2.St} {w : Wd} {ρ : Env'} {s : Sto} {H : Hp} {f : FE} {k : Xv → Sto → Res} {Q : VK} (e : RE T w ρ st) (r : RS T w s H) (p : PostE T W st w ((f ρ s).bind k) Q) (hk : ∀ x s1, (∃ b, truth x s1 = some b) ∨ k x s1 = .stuck) :
    rdT T W f st H fun b H1 => ∃ w1 v s1, truth v s1 = some b ∧ Le w w1 ∧ RE T w1 ρ st ∧ RS T w1 s1 H1 ∧ PostE T W st w1 (k v s1) Q := by
  refine ⟨w, ρ, s, e, r, ?_⟩
  cases h : f ρ s with
  | ok v s1 =>
    rw [h] at p
    rcases hk v s1 with ⟨b, eb⟩ | ek
    · exact ⟨b, eb, fun w1 H1 l y => ⟨w1, v, s1, eb, l, e.mono l, y, PostE.mono l p⟩⟩
    · have p' : PostE T W st w (k v s1) Q := p
      rw [ek] at p'
      exact p'.elim
  | exc x s1 =>
    rw [h] at p
    exact p
  | stuck =>
    rw [h] at p
    exact p
theorem pf_if {c a b : Expr} {h f g : FE} {pos : Pos} (hc : PFT T X W c h) (ha : PF T X W a f) (hb : PF T X W b g) : PF T X W (.IfExp c a b pos) (ifF h f g) :=
  PE.imp (pe_ifExp hc ha hb) fun st H Q ⟨w, ρ, s, e, q, p⟩ => rdT_mono (postE_bindT e q p (fun x s1 => by
      cases h : truth x s1 with
      | some b => exact .inl ⟨_, rfl⟩
      | none => exact .inr rfl)) fun b H1 ⟨w1, x, s1, eb, l1, e1, r1, p1⟩ => by
    rw [eb] at p1
    cases b with
    | true =>
      rw [if_pos rfl]
      exact ⟨w1, ρ, s1, e1, r1, p1⟩
    | false =>
      rw [if_neg Bool.false_ne_true]
      exact ⟨w1, ρ, s1, e1, r1, p1⟩
/-- a < b < c -/
def chainK (o' : Xv → Xv → Sto → Res) (h : FE) (ρ : Env') (y : Xv) (z : Xv) (s3 : Sto) : Res := match z with
  | .d (.bl true) => (h ρ s3).bind fun v s4 => o' y v s4
  | .d (.bl false) => okB false s3
  | _ => .stuck
def chainF (o o' : Xv → Xv → Sto → Res) (f g h : FE) : FE := fun ρ s => (f ρ s).bind fun x s1 => (g ρ s1).bind fun y s2 => (o x y s2).bind (chainK o' h ρ y)
theorem rd_chain {r r' : R2} {o o' : Xv → Xv → Sto → Res} {f g h : FE} (h1 : Op2 T W r o) (h2 : Op2 T W r' o') {st : L2.St} {H : Hp} {Q : VK} (k : rdE T W (chainF o o' f g h) st H Q) : tChain r r' (rdE T W f) (rdE T W g) (rdE T W h) st H Q := by
  obtain ⟨w, ρ, s, e, q, p⟩ := k
  refine rdE_mono (postE_bind e q p) fun u H1 ⟨w1, x, s1, l1, e1, x1, r1, p1⟩ => rdE_mono (postE_bind e1 r1 p1) fun v H2 ⟨w2, y, s2, l2, e2, x2, r2, p2⟩ => ?_
  refine h1 st w2 x y u v s2 H2 _ (x1.mono l2) x2 r2 ?_
  revert p2
  show PostE T W st w2 ((o x y s2).bind _) Q → _
  cases o x y s2 with
  | exc a b => exact fun p => p
  | stuck => exact fun p => p
  | ok z s3 =>
    intro p2 w3 u3 H3 l3 x3 r3
    have p3 := PostE.mono l3 (show PostE T W st w2 (chainK o' h ρ y z s3) Q from p2)
    unfold chainK at p3
    split at p3
    · cases X_bl x3
      refine ⟨true, rfl, ?_⟩
      rw [if_pos rfl]
      exact rdE_mono (postE_bind (e2.mono l3) r3 p3) fun v4 H4 ⟨w4, z4, s4, l4, e4, x4, r4, p4⟩ => h2 st w4 y z4 v v4 s4 H4 Q ((x2.mono l3).mono l4) x4 r4 p4
    · cases X_bl x3
      refine ⟨false, rfl, ?_⟩
      rw [if_neg Bool.false_ne_true]
      exact okB_q p3 r3
    · exact p3.elim
theorem pf_chain {op op' : CmpOp} {r r' : R2} {o o' : Xv → Xv → Sto → Res} {a b c : Expr} {f g h : FE} {pos : Pos} (ho : OpR X (compareOp op) r) (ho' : OpR X (compareOp op') r') (h1 : Op2 T W r o) (h2 : Op2 T W r' o') (ha : PF T X W a f) (hb : PF T X W b g) (hc : PF T X W c h)
    (hm : lastMarks [op, op'] [b, c] = false := by with_unfolding_all rfl) : PF T X W (.Compare a [op, op'] [b, c] pos) (chainF o o' f g h) := PE.imp (pe_chain ho ho' ha hb hc hm) fun _ _ _ => rd_chain h1 h2
/-- what gives truth values alone -/
def BlF (f : FE) : Prop := ∀ ρ s, match f ρ s with | .ok v _ => ∃ b, v = .d (.bl b) | _ => True
theorem rdT_bl {f : FE} (hf : BlF f) {st : L2.St} {H : Hp} {Q : Bool → Hp → Prop} (k : rdT T W f st H Q) : rdE T W f st H fun u H1 => ∃ k, u = .bl k ∧ Q k H1 := by
  obtain ⟨w, ρ, s, e, q, p⟩ := k
  refine ⟨w, ρ, s, e, q, ?_⟩
  have hb := hf ρ s
  revert p hb
  cases f ρ s with
  | exc a b => exact fun p _ => p
  | stuck => exact fun p _ => p
  | ok x s1 =>
    rintro ⟨b, eb, p⟩ ⟨b', ex⟩ w1 u H1 l x1 y1
    subst ex
    cases eb
    exact ⟨b, X_bl x1, p w1 H1 l y1⟩
theorem chainF_bl {o o' : Xv → Xv → Sto → Res} {f g h : FE} (h2 : Bl2 o') : BlF (chainF o o' f g h) := fun ρ s => by
  unfold chainF
  cases f ρ s with
  | exc a b => exact True.intro
  | stuck => exact True.intro
  | ok x s1 =>
    show match (g ρ s1).bind _ with | .ok v _ => ∃ b, v = .d (.bl b) | _ => True
    cases g ρ s1 with
    | exc a b => exact True.intro
    | stuck => exact True.intro
    | ok y s2 =>
      show match (o x y s2).bind _ with | .ok v _ => ∃ b, v = .d (.bl b) | _ => True
      cases o x y s2 with
      | exc a b => exact True.intro
      | stuck => exact True.intro
      | ok z s3 =>
        show match chainK o' h ρ y z s3 with | .ok v _ => ∃ b, v = .d (.bl b) | _ => True
        unfold chainK
        split
        · rename_i v1 s5 e5
          split at e5
          · revert e5
            cases h ρ s3 with
            | exc a b => exact fun e => nomatch e
            | stuck => exact fun e => nomatch e
            | ok v s4 =>
              intro e5
              have e5' : o' y v s4 = .ok v1 s5 := e5
              rcases h2 y v s4 with ⟨b, s', e⟩ | e
              · rw [e] at e5'
                cases e5'
                exact ⟨b, rfl⟩
              · rw [e] at e5'
                cases e5'
          · cases e5
            exact ⟨_, rfl⟩
          · cases e5
        · exact True.intro
end
end FL

set_option Elab.async false
set_option linter.all false
set_option maxRecDepth 100000
set_option maxHeartbeats 4000000
namespace FL
open PySem PySem.Spec PyProof.Rows L2
section
variable {T : Tx} {X : Cx} {W : WX}
/-! ### argument lists, displays -/
def nilA : FA := fun _ s => .ok [] s
def consA (f : FE) (g : FA) : FA := fun ρ s => (f ρ s).bindA fun x s1 => (g ρ s1).bindA fun xs s2 => .ok (x :: xs) s2
theorem pfa_nil : PFA T X W [] nilA := PA.imp pa_nil fun st H Q ⟨w, ρ, s, e, q, p⟩ => p w [] H (.refl _) rfl q
theorem pfa_cons {e : Expr} {es : List Expr} {f : FE} {g : FA} (ha : PF T X W e f) (hr : PFA T X W es g) (hs : starEach (e :: es) X.env = (false, eval e X.env) :: starEach es X.env := by rfl) : PFA T X W (e :: es) (consA f g) :=
  PA.imp (pa_cons ha hr hs) fun st H Q ⟨w, ρ, s, e, q, p⟩ => rdE_mono (postA_bind e q p) fun u H1 ⟨w1, x, s1, l1, e1, x1, r1, p1⟩ => rdA_mono (postA_bindL e1 r1 p1) fun us H2 ⟨w2, xs, s2, l2, e2, x2, r2, p2⟩ =>
    p2 w2 (u :: us) H2 (.refl _) (.cons (x1.mono l2) x2) r2
/-- all are plain data -/
def pureAll : List Xv → Option (List D)
  | [] => some []
  | .d x :: xs => match pureAll xs with | some r => some (x :: r) | none => none
  | .ref _ :: _ => none
theorem pureAll_ok {w : Wd} : ∀ {xs : List Xv} {ds : List D} {vs : List V}, pureAll xs = some ds → RXs T w xs vs → Rs T w.G ds vs
  | [], ds, vs, h, e => by
    cases h
    have e' : vs = [] := e
    subst e'
    unfold Rs
    rfl
  | .d x :: xs, ds, vs, h, ⟨v, r, e1, e2, e3⟩ => by
    unfold pureAll at h
    split at h
    · rename_i r' q
      cases h
      subst e1
      exact .cons e2 (pureAll_ok q e3)
    · cases h
  | .ref _ :: _, _, _, h, _ => by cases h
def tupF (g : FA) : FE := fun ρ s => (g ρ s).bind fun xs s1 => match pureAll xs with
  | some ds => if ds.length ≤ 1000000 then .ok (.d (.tup ds)) s1 else .stuck
  | none => .stuck
def lstF (m : Bool) (g : FA) : FE := fun ρ s => (g ρ s).bind fun xs s1 => match pureAll xs with
  | some ds => if ds.length ≤ 1000000 then mkL m ds s1 else .stuck
  | none => .stuck
theorem le_line {n : Nat} (h : n ≤ 1000000) : n ≤ sizeLine := by rw [sizeLine_eq]; omega
theorem pf_tup {es : List Expr} {g : FA} {x1} {pos : Pos} (h : PFA T X W es g) : PF T X W (.Tuple es x1 pos) (tupF g) :=
  PE.imp (pe_tup h) fun st H Q ⟨w, ρ, s, e, q, p⟩ => rdA_mono (postE_bindL e q p) fun us H1 ⟨w1, xs, s1, l1, e1, x1, r1, p1⟩ => by
    split at p1
    · rename_i ds hd
      split at p1
      · rename_i hl
        have k := pureAll_ok hd x1
        exact ⟨by rw [← k.length]; exact le_line hl, fun a ha => mkT_ok p1 r1 k a ha⟩
      · exact p1.elim
    · exact p1.elim
theorem pf_lst {es : List Expr} {g : FA} {pos : Pos} (m : Bool) (h : PFA T X W es g) : PF T X W (.List es pos) (lstF m g) :=
  PE.imp (pe_lst h) fun st H Q ⟨w, ρ, s, e, q, p⟩ => rdA_mono (postE_bindL e q p) fun us H1 ⟨w1, xs, s1, l1, e1, x1, r1, p1⟩ => by
    split at p1
    · rename_i ds hd
      split at p1
      · rename_i hl
        have k := pureAll_ok hd x1
        exact ⟨by rw [← k.length]; exact le_line hl, fun a ha => mkL_ok p1 r1 k a ha⟩
      · exact p1.elim
    · exact p1.elim

/-! ### a[i] -/
theorem Rs.atI {G : Hp} {xs : List D} {vs : List V} {i : Int} {x : D} (h : Rs T G xs vs) (e : atI xs i = some x) : ∃ v, L2.atI vs i = some v ∧ R T G x v := by
  unfold L2.atI at e ⊢
  rw [← h.length]
  cases k : ixN xs.length i with
  | none => rw [k] at e; cases e
  | some j =>
    rw [k] at e
    exact h.get e
def ixX (x y : Xv) (s : Sto) : Res := match y with
  | .d (.int i) => match x with
    | .d (.tup xs) => match atI xs i with | some v => .ok (.d v) s | none => .stuck
    | .d (.str z) => if z.length ≤ sizeLine then match atI z.cps.toList i with | some c => .ok (.d (.str ⟨#[c]⟩)) s | none => .stuck else .stuck
    | .d (.scr ns) => match atI ns i with | some v => okI v s | none => .stuck
    | x => match viewL x s with
      | some xs => match atI xs i with | some v => .ok (.d v) s | none => .stuck
      | none => .stuck
  | _ => .stuck
theorem atI_map {α β : Type} (f : α → β) {xs : List α} {i : Int} {x : α} (h : atI xs i = some x) : atI (xs.map f) i = some (f x) := by
  unfold atI at h ⊢
  rw [List.length_map]
  cases k : ixN xs.length i with
  | none => rw [k] at h; cases h
  | some j =>
    rw [k] at h
    have h' : xs[j]? = some x := h
    show (xs.map f)[j]? = some (f x)
    rw [List.getElem?_map, h']
    rfl
theorem ix_ok : Op2 T W (rIx T.K) ixX := by
  intro st w x y u v s H Q hx hy r p
  unfold ixX at p
  split at p
  · rename_i i
    cases X_int hy
    split at p
    · rename_i xs
      split at p
      · rename_i d hd
        obtain ⟨a, vs, e1, e2, e3⟩ := viewT_ok (xs := xs) r hx rfl
        obtain ⟨z, hz, rz⟩ := e3.atI hd
        exact .inr (.inl ⟨a, vs, i, z, e1, rfl, e2, hz, postE_ok p rz r⟩)
      · exact p.elim
    · rename_i z
      cases X_str hx
      split at p
      · rename_i hl
        split at p
        · rename_i c hc
          exact .inr (.inr ⟨z, i, c, rfl, rfl, hl, hc, postE_ok p rX_str r⟩)
        · exact p.elim
      · exact p.elim
    · rename_i ns
      split at p
      · rename_i n hn
        have hx' : R T w.G (.scr ns) u := hx
        unfold R at hx'
        obtain ⟨a, e1, e2⟩ := hx'
        exact .inl ⟨a, _, i, _, e1, rfl, r.g.seq e2, atI_map V.int hn, okI_q p r⟩
      · exact p.elim
    · split at p
      · rename_i xs hv
        split at p
        · rename_i d hd
          obtain ⟨a, vs, e1, e2, e3⟩ := viewL_ok r hx hv
          obtain ⟨z, hz, rz⟩ := e3.atI hd
          exact .inl ⟨a, vs, i, z, e1, rfl, .of e2, hz, postE_ok p rz r⟩
        · exact p.elim
      · exact p.elim
  · exact p.elim
theorem pf_ix {a b : Expr} {f g : FE} {pos : Pos} (hK : X.K = T.K) (ha : PF T X W a f) (hb : PF T X W b g) (hs : PlainIx b := by exact fun _ _ => rfl) : PF T X W (.Subscript a b pos) (op2F ixX f g) :=
  PE.imp (pe_ix ix_seq ha hb hs) fun _ _ _ k => by rw [hK]; exact rd_op2 ix_ok k

/-! ### a[lo:hi] -/
def cutD {α : Type} (xs : List α) (lo hi : Option Int) : List α := (xs.drop (HT.sIx xs.length 0 lo)).take (HT.sIx xs.length xs.length hi - HT.sIx xs.length 0 lo)
def prt : Xv → Option (Option Int)
  | .d .non => some none
  | .d (.int i) => some (some i)
  | _ => none
def slX (m : Bool) (x l h : Xv) (s : Sto) : Res := match prt l, prt h with
  | some lo, some hi => match x with
    | .d (.tup xs) => .ok (.d (.tup (cutD xs lo hi))) s
    | .d (.str z) => if z.length ≤ sizeLine then .ok (.d (.str (cutS z lo hi))) s else .stuck
    | .d (.scr ns) => mkL m ((cutD ns lo hi).map .int) s
    | x => match viewL x s with | some xs => mkL m (cutD xs lo hi) s | none => .stuck
  | _, _ => .stuck
def slF (m : Bool) (f l h : FE) : FE := fun ρ s => (f ρ s).bind fun x s1 => (l ρ s1).bind fun a s2 => if (prt a).isSome = true then (h ρ s2).bind fun b s3 => slX m x a b s3 else .stuck
/-- a slice's part -/
abbrev PFO (T : Tx) (X : Cx) (W : WX) (e : Option Expr) (f : FE) : Prop := PO X e fun st H Q => rdE T W f st H fun u H1 => (u = .non ∧ Q none H1) ∨ ∃ i, u = .int i ∧ Q (some i) H1
theorem PO.imp {e : Option Expr} {t t' : TO} (h : PO X e t) (k : ∀ st H Q, t' st H Q → t st H Q) : PO X e t' := ⟨fun pins s σ H Q I q => h.run pins s σ H Q I (k _ _ _ q)⟩
theorem pfo_none : PFO T X W none (litF .non) := PO.imp po_none fun st H Q ⟨w, ρ, s, e, q, p⟩ => by
  rcases postE_ok p rX_non q with ⟨_, h⟩ | ⟨i, h, _⟩
  · exact h
  · cases h
/-- what gives an int -/
def intF (f : FE) : FE := fun ρ s => (f ρ s).bind fun x s1 => match x with | .d (.int i) => okI i s1 | _ => .stuck
theorem pfo_some {e : Expr} {f : FE} (h : PF T X W e f) : PFO T X W (some e) (intF f) := PO.imp (po_some h) fun st H Q ⟨w, ρ, s, e, q, p⟩ => rdE_mono (postE_bind e q p) fun u H1 ⟨w1, x, s1, l1, e1, x1, r1, p1⟩ => by
  split at p1
  · cases X_int x1
    rcases okI_q p1 r1 with ⟨h, _⟩ | ⟨i, h, k⟩
    · cases h
    · cases h
      exact ⟨_, rfl, k⟩
  · exact p1.elim
theorem Rs.cut {G : Hp} {xs : List D} {vs : List V} (h : Rs T G xs vs) (lo hi : Option Int) : Rs T G (cutD xs lo hi) (cutV vs lo hi) := by
  unfold cutD cutV
  rw [← h.length]
  exact (h.drop _).take _
theorem cut_whole {xs : List D} {lo hi : Option Int} (h : HT.sIx xs.length 0 lo = 0 ∧ HT.sIx xs.length xs.length hi = xs.length) : cutD xs lo hi = xs := by
  unfold cutD
  rw [h.1, h.2]
  simp
theorem cut_ints (ns : List Int) (lo hi : Option Int) : cutV (ns.map V.int) lo hi = (cutD ns lo hi).map V.int := by
  unfold cutD cutV
  rw [List.length_map, List.map_take, List.map_drop]
theorem rs_ints {G : Hp} : ∀ ns : List Int, Rs T G (ns.map D.int) (ns.map V.int)
  | [] => by unfold Rs; rfl
  | n :: ns => .cons (by unfold R; rfl) (rs_ints ns)
theorem prt_ok {w : Wd} {x : Xv} {u : V} {o : Option Int} {Q : Option Int → Hp → Prop} {H : Hp} (e : RX T w x u) (h : prt x = some o) (q : Q o H) : (u = .non ∧ Q none H) ∨ ∃ i, u = .int i ∧ Q (some i) H := by
  unfold prt at h
  split at h
  · cases h
    exact .inl ⟨X_non e, q⟩
  · cases h
    exact .inr ⟨_, X_int e, q⟩
  · cases h
def rSlAll (K : PySem.W.Frag) : V → Option Int → Option Int → Hp → VK → Prop := fun x lo hi H Q => rSlA K x lo hi H Q ∨ rSlL K x lo hi H Q ∨ rSlS x lo hi H Q
theorem sl_ok {st : L2.St} {w : Wd} {m : Bool} {x l h : Xv} {u vl vh : V} {s : Sto} {H : Hp} {Q : VK} (hx : RX T w x u) (hl : RX T w l vl) (hh : RX T w h vh) (r : RS T w s H) (p : PostE T W st w (slX m x l h s) Q) : ∃ lo hi, prt l = some lo ∧ prt h = some hi ∧ rSlAll T.K u lo hi H Q := by
  unfold slX at p
  split at p
  · rename_i lo hi e1 e2
    refine ⟨lo, hi, e1, e2, ?_⟩
    split at p
    · rename_i xs
      obtain ⟨a, vs, f1, f2, f3⟩ := viewT_ok (xs := xs) r hx rfl
      subst f1
      refine .inl ⟨a, vs, rfl, f2, fun z => ?_, fun z q hq => mkT_ok p r (f3.cut lo hi) q hq⟩
      rw [← f3.length] at z
      rw [cut_whole z] at p
      exact postE_ok p hx r
    · rename_i z
      cases X_str hx
      split at p
      · rename_i hz
        exact .inr (.inr ⟨z, rfl, hz, postE_ok p rX_str r⟩)
      · exact p.elim
    · rename_i ns
      have hx' : R T w.G (.scr ns) u := hx
      unfold R at hx'
      obtain ⟨a, e3, e4⟩ := hx'
      subst e3
      refine .inr (.inl ⟨a, _, rfl, r.g.seq e4, fun q hq => ?_⟩)
      rw [cut_ints]
      exact mkL_ok p r (rs_ints _) q hq
    · split at p
      · rename_i xs hv
        obtain ⟨a, vs, f1, f2, f3⟩ := viewL_ok r hx hv
        subst f1
        exact .inr (.inl ⟨a, vs, rfl, .of f2, fun q hq => mkL_ok p r (f3.cut lo hi) q hq⟩)
      · exact p.elim
  · exact p.elim
theorem pf_slice {e : Expr} {lo hi : Option Expr} {f l h : FE} {pos p2 : Pos} (m : Bool) (hK : X.K = T.K) (he : PF T X W e f) (hl : PFO T X W lo l) (hh : PFO T X W hi h) : PF T X W (.Subscript e (.Slice lo hi none p2) pos) (slF m f l h) :=
  PE.imp (pe_slice (r := rSlAll X.K) (sl_tupA.or (sl_list.or sl_str)) he hl hh) fun st H Q ⟨w, ρ, s, e, q, p⟩ => rdE_mono (postE_bind e q p) fun u H1 ⟨w1, x, s1, l1, e1, x1, r1, p1⟩ => by
    refine rdE_mono (postE_bind e1 r1 p1) fun v2 H2 ⟨w2, y, s2, l2, e2, x2, r2, p2⟩ => ?_
    split at p2
    · rename_i hy
      obtain ⟨lo, hlo⟩ := Option.isSome_iff_exists.mp hy
      have fin : rdE T W h st H2 fun u1 H3 => (u1 = V.non ∧ rSlAll X.K u lo none H3 Q) ∨ ∃ i, u1 = V.int i ∧ rSlAll X.K u lo (some i) H3 Q := rdE_mono (postE_bind e2 r2 p2) fun v3 H3 ⟨w3, z, s3, l3, e3, x3, r3, p3⟩ => by
        obtain ⟨lo', hi, q1, q2, q3⟩ := sl_ok ((x1.mono l2).mono l3) (x2.mono l3) x3 r3 p3
        rw [hlo] at q1
        cases q1
        exact prt_ok (Q := fun o H3 => rSlAll X.K u lo o H3 Q) x3 q2 (by rw [hK]; exact q3)
      exact prt_ok (Q := fun o H3 => rdE T W h st H3 fun u1 H4 => (u1 = V.non ∧ rSlAll X.K u o none H4 Q) ∨ ∃ i, u1 = V.int i ∧ rSlAll X.K u o (some i) H4 Q) x2 hlo fin
    · exact p2.elim
end
end FL

set_option Elab.async false
set_option linter.all false
set_option maxRecDepth 100000
set_option maxHeartbeats 4000000
namespace FL
open PySem PySem.Spec PyProof.Rows L2
section
variable {T : Tx} {X : Cx} {W : WX}
/-! ### built-in functions -/
abbrev RN := List V → Hp → VK → Prop
def OpN (T : Tx) (W : WX) (r : RN) (o : List Xv → Sto → Res) : Prop := ∀ (st : L2.St) (w : Wd) (xs : List Xv) (vs : List V) (s : Sto) (H : Hp) (Q : VK), RXs T w xs vs → RS T w s H → PostE T W st w (o xs s) Q → r vs H Q
def callBF (o : List Xv → Sto → Res) (g : FA) : FE := fun ρ s => (g ρ s).bind o
theorem rd_callB {r : RN} {o : List Xv → Sto → Res} {g : FA} (h : OpN T W r o) {st : L2.St} {H : Hp} {Q : VK} (k : rdE T W (callBF o g) st H Q) : tCB r (rdA T W g) st H Q := by
  obtain ⟨w, ρ, s, e, q, p⟩ := k
  exact rdA_mono (postE_bindL e q p) fun us H1 ⟨w1, xs, s1, l1, e1, x1, r1, p1⟩ => h st w1 xs us s1 H1 Q x1 r1 p1
theorem pf_callB {x : Str} {p pos : Pos} {e : Expr} {es : List Expr} {id : String} {r : RN} {o : List Xv → Sto → Res} {g : FA} (hc : CallR X (.builtin id) r) (h : OpN T W r o) (hm : X.mg x = none) (hv : bootBuiltins x = some (.builtin id)) (ha : PFA T X W (e :: es) g) (hg : Gl X x := by rfl)
    (hn : x ≠ "__name__" := by decide) (hdb : (x == ("__debug__" : Str)) = false := by decide) (he : starEach (e :: es) X.env = (false, eval e X.env) :: starEach es X.env := by rfl) (hpl : (backTo pos (starEach es X.env)).any (·.1) = false := by rfl) :
    PF T X W (.Call (.Name x p) (e :: es) [] pos) (callBF o g) := PE.imp (pe_callB hc hg hm hv ha hn hdb he hpl) fun _ _ _ => rd_callB h
theorem pf_callTy {x : Str} {p pos : Pos} {e : Expr} {es : List Expr} {id : String} {r : RN} {o : List Xv → Sto → Res} {g : FA} (hc : CallR X (.type id) r) (h : OpN T W r o) (hm : X.mg x = none) (hv : bootBuiltins x = some (.type id)) (ha : PFA T X W (e :: es) g) (hg : Gl X x := by rfl)
    (hn : x ≠ "__name__" := by decide) (hdb : (x == ("__debug__" : Str)) = false := by decide) (he : starEach (e :: es) X.env = (false, eval e X.env) :: starEach es X.env := by rfl) (hpl : (backTo pos (starEach es X.env)).any (·.1) = false := by rfl) :
    PF T X W (.Call (.Name x p) (e :: es) [] pos) (callBF o g) := PE.imp (pe_callTy hc hg hm hv ha hn hdb he hpl) fun _ _ _ => rd_callB h
theorem rxs1 {w : Wd} {x : Xv} {vs : List V} (h : RXs T w [x] vs) : ∃ v, vs = [v] ∧ RX T w x v := by
  obtain ⟨v, r, e1, e2, e3⟩ := h
  have e3' : r = [] := e3
  subst e3'
  exact ⟨v, e1, e2⟩
theorem rxs2 {w : Wd} {x y : Xv} {vs : List V} (h : RXs T w [x, y] vs) : ∃ v u, vs = [v, u] ∧ RX T w x v ∧ RX T w y u := by
  obtain ⟨v, r, e1, e2, e3⟩ := h
  obtain ⟨u, e4, e5⟩ := rxs1 e3
  subst e4
  exact ⟨v, u, e1, e2, e5⟩
def lenX (xs : List Xv) (s : Sto) : Res := match xs with
  | [.d (.tup a)] => okI a.length s
  | [.d (.str z)] => if z.length ≤ sizeLine then okI z.length s else .stuck
  | [.d (.scr a)] => okI a.length s
  | [x] => match viewL x s with | some a => okI a.length s | none => .stuck
  | _ => .stuck
theorem len_ok : OpN T W (fun xs H Q => ∃ x n, xs = [x] ∧ LenV T.K x H n ∧ Q (.int n) H) lenX := by
  intro st w xs vs s H Q hx r p
  unfold lenX at p
  split at p
  · rename_i a
    obtain ⟨v, rfl, e⟩ := rxs1 hx
    obtain ⟨ad, us, e1, e2, e3⟩ := viewT_ok (xs := a) r e rfl
    subst e1
    exact ⟨_, _, rfl, .inr ⟨us, e2, e3.length⟩, okI_q p r⟩
  · obtain ⟨v, rfl, e⟩ := rxs1 hx
    cases X_str e
    split at p
    · exact ⟨_, _, rfl, ⟨by assumption, rfl⟩, okI_q p r⟩
    · exact p.elim
  · rename_i a
    obtain ⟨v, rfl, e⟩ := rxs1 hx
    have e' : R T w.G (.scr a) v := e
    unfold R at e'
    obtain ⟨ad, e1, e2⟩ := e'
    subst e1
    exact ⟨_, _, rfl, .inl ⟨_, r.g.seq e2, by rw [List.length_map]⟩, okI_q p r⟩
  · split at p
    · rename_i a hv
      obtain ⟨v, rfl, e⟩ := rxs1 hx
      obtain ⟨ad, us, e1, e2, e3⟩ := viewL_ok r e hv
      subst e1
      exact ⟨_, _, rfl, .inl ⟨us, .of e2, e3.length⟩, okI_q p r⟩
    · exact p.elim
  · exact p.elim
/-- int(n), int(b) -/
def intX (xs : List Xv) (s : Sto) : Res := match xs with
  | [.d (.int i)] => okI i s
  | [.d (.bl b)] => okI (if b then 1 else 0) s
  | _ => .stuck
theorem int_ok : OpN T W (fun xs H Q => (∃ i, xs = [.int i] ∧ Q (.int i) H) ∨ ∃ k, xs = [.bl k] ∧ Q (.int (if k then 1 else 0)) H) intX := by
  intro st w xs vs s H Q hx r p
  unfold intX at p
  split at p
  · obtain ⟨v, rfl, e⟩ := rxs1 hx
    cases X_int e
    exact .inl ⟨_, rfl, okI_q p r⟩
  · obtain ⟨v, rfl, e⟩ := rxs1 hx
    cases X_bl e
    exact .inr ⟨_, rfl, okI_q p r⟩
  · exact p.elim
def tupleX (xs : List Xv) (s : Sto) : Res := match xs with
  | [.d (.tup a)] => .ok (.d (.tup a)) s
  | [x] => match viewL x s with | some a => .ok (.d (.tup a)) s | none => .stuck
  | _ => .stuck
theorem tuple_ok : OpN T W (fun xs H Q => ∃ p ys, xs = [.ref p] ∧ ((SqL T.K H p ys ∧ ∀ l, H l = none → Q (.ref l) (upd H l (.tup ys))) ∨ (SqT T.K H p ys ∧ Q (.ref p) H))) tupleX := by
  intro st w xs vs s H Q hx r p
  unfold tupleX at p
  split at p
  · rename_i a
    obtain ⟨v, rfl, e⟩ := rxs1 hx
    obtain ⟨ad, us, e1, e2, e3⟩ := viewT_ok (xs := a) r e rfl
    subst e1
    exact ⟨_, _, rfl, .inr ⟨e2, postE_ok p e r⟩⟩
  · split at p
    · rename_i a hv
      obtain ⟨v, rfl, e⟩ := rxs1 hx
      obtain ⟨ad, us, e1, e2, e3⟩ := viewL_ok r e hv
      subst e1
      exact ⟨_, _, rfl, .inl ⟨.of e2, fun q hq => mkT_ok p r e3 q hq⟩⟩
    · exact p.elim
  · exact p.elim
def listX (m : Bool) (xs : List Xv) (s : Sto) : Res := match xs with
  | [.d (.tup a)] => mkL m a s
  | [.d (.scr a)] => mkL m (a.map .int) s
  | [x] => match viewL x s with | some a => mkL m a s | none => .stuck
  | _ => .stuck
theorem list_ok {m : Bool} : OpN T W (fun xs H Q => ∃ p ys, xs = [.ref p] ∧ (SqL T.K H p ys ∨ SqT T.K H p ys) ∧ ∀ l, H l = none → Q (.ref l) (upd H l (.lst ys))) (listX m) := by
  intro st w xs vs s H Q hx r p
  unfold listX at p
  split at p
  · rename_i a
    obtain ⟨v, rfl, e⟩ := rxs1 hx
    obtain ⟨ad, us, e1, e2, e3⟩ := viewT_ok (xs := a) r e rfl
    subst e1
    exact ⟨_, _, rfl, .inr e2, fun q hq => mkL_ok p r e3 q hq⟩
  · rename_i a
    obtain ⟨v, rfl, e⟩ := rxs1 hx
    have e' : R T w.G (.scr a) v := e
    unfold R at e'
    obtain ⟨ad, e1, e2⟩ := e'
    subst e1
    exact ⟨_, _, rfl, .inl (r.g.seq e2), fun q hq => mkL_ok p r (rs_ints a) q hq⟩
  · split at p
    · rename_i a hv
      obtain ⟨v, rfl, e⟩ := rxs1 hx
      obtain ⟨ad, us, e1, e2, e3⟩ := viewL_ok r e hv
      subst e1
      exact ⟨_, _, rfl, .inl (.of e2), fun q hq => mkL_ok p r e3 q hq⟩
    · exact p.elim
  · exact p.elim
/-- all are numbers -/
def allInts : List D → Option (List Int)
  | [] => some []
  | .int i :: xs => match allInts xs with | some r => some (i :: r) | none => none
  | _ => none
theorem allInts_ok {G : Hp} : ∀ {xs : List D} {ns : List Int} {vs : List V}, allInts xs = some ns → Rs T G xs vs → vs = ns.map V.int
  | [], ns, vs, h, e => by
    cases h
    unfold Rs at e
    exact e
  | .int i :: xs, ns, vs, h, e => by
    unfold Rs at e
    obtain ⟨v, r, e1, e2, e3⟩ := e
    unfold allInts at h
    split at h
    · rename_i r' q
      cases h
      rw [e1, R_int e2, allInts_ok q e3]
      rfl
    · cases h
  | .non :: _, _, _, h, _ => by cases h
  | .bl _ :: _, _, _, h, _ => by cases h
  | .str _ :: _, _, _, h, _ => by cases h
  | .ty _ :: _, _, _, h, _ => by cases h
  | .adr _ :: _, _, _, h, _ => by cases h
  | .tup _ :: _, _, _, h, _ => by cases h
  | .lst _ :: _, _, _, h, _ => by cases h
  | .scr _ :: _, _, _, h, _ => by cases h
  | .cls _ :: _, _, _, h, _ => by cases h
  | .obj _ _ _ :: _, _, _, h, _ => by cases h
  | .exc _ _ _ :: _, _, _, h, _ => by cases h
def sumX (xs : List Xv) (s : Sto) : Res := match xs with
  | [.d (.scr a)] => okI a.sum s
  | [x] => match viewL x s with
    | some a => match allInts a with | some ns => okI ns.sum s | none => .stuck
    | none => .stuck
  | _ => .stuck
theorem sum_ok : OpN T W (rSum T.K) sumX := by
  intro st w xs vs s H Q hx r p
  unfold sumX at p
  split at p
  · rename_i a
    obtain ⟨v, rfl, e⟩ := rxs1 hx
    have e' : R T w.G (.scr a) v := e
    unfold R at e'
    obtain ⟨ad, e1, e2⟩ := e'
    subst e1
    exact ⟨_, _, rfl, r.g.seq e2, okI_q p r⟩
  · split at p
    · rename_i a hv
      split at p
      · rename_i ns hi
        obtain ⟨v, rfl, e⟩ := rxs1 hx
        obtain ⟨ad, us, e1, e2, e3⟩ := viewL_ok r e hv
        subst e1
        exact ⟨_, ns, rfl, .of (by rw [e2, allInts_ok hi e3]), okI_q p r⟩
      · exact p.elim
    · exact p.elim
  · exact p.elim
def maxX (xs : List Xv) (s : Sto) : Res := match xs with
  | [.d (.int i), .d (.int j)] => okI (if j > i then j else i) s
  | _ => .stuck
def minX (xs : List Xv) (s : Sto) : Res := match xs with
  | [.d (.int i), .d (.int j)] => okI (if j < i then j else i) s
  | _ => .stuck
theorem max_ok : OpN T W (fun xs H Q => ∃ i j, xs = [.int i, .int j] ∧ Q (.int (if j > i then j else i)) H) maxX := by
  intro st w xs vs s H Q hx r p
  unfold maxX at p
  split at p
  · obtain ⟨v, u, rfl, e, f⟩ := rxs2 hx
    cases X_int e
    cases X_int f
    exact ⟨_, _, rfl, okI_q p r⟩
  · exact p.elim
theorem min_ok : OpN T W (fun xs H Q => ∃ i j, xs = [.int i, .int j] ∧ Q (.int (if j < i then j else i)) H) minX := by
  intro st w xs vs s H Q hx r p
  unfold minX at p
  split at p
  · obtain ⟨v, u, rfl, e, f⟩ := rxs2 hx
    cases X_int e
    cases X_int f
    exact ⟨_, _, rfl, okI_q p r⟩
  · exact p.elim
/-- repr of plain data -/
def reprX (xs : List Xv) (s : Sto) : Res := match xs with
  | [x] => match eqView x s with
    | some a => if (flatS 32 a && PyData.showable (toP a) && decide ((toP a).shown.length ≤ sizeLine)) = true then .ok (.d (.str (toP a).shown)) s else .stuck
    | none => .stuck
  | _ => .stuck
/-! x.bit_length() -/
def bitsF (f : FE) : FE := fun ρ s => (f ρ s).bind fun x s1 => match x with | .d (.int i) => okI (Builtin.Int.intBits i : Nat) s1 | _ => .stuck
theorem pf_bits {o : Expr} {f : FE} {apos pos : Pos} (ho : PF T X W o f) (hbase : attributeBase o "bit_length" X.env (eval o X.env) = eval o X.env := by rfl) (hline : (apos.endLine == pos.line) = true := by rfl) :
    PF T X W (.Call (.Attribute o "bit_length" apos) [] [] pos) (bitsF f) := PE.imp (pe_bits ho hbase hline) fun st H Q ⟨w, ρ, s, e, q, p⟩ => rdE_mono (postE_bind e q p) fun u H1 ⟨w1, x, s1, l1, e1, x1, r1, p1⟩ => by
  split at p1
  · cases X_int x1
    exact ⟨_, rfl, okI_q p1 r1⟩
  · exact p1.elim
end
end FL

set_option Elab.async false
set_option linter.all false
set_option maxRecDepth 100000
set_option maxHeartbeats 4000000
namespace FL
open PySem PySem.Spec PyProof.Rows L2
/-! ### isinstance -/
def tyn : Xv → Sto → Option String
  | .d .non, _ => some "NoneType"
  | .d (.bl _), _ => some "bool"
  | .d (.int _), _ => some "int"
  | .d (.str _), _ => some "str"
  | .d (.tup _), _ => some "tuple"
  | x, s => match viewL x s with | some _ => some "list" | none => none
def knownT : List String := ["NoneType", "bool", "int", "str", "tuple", "list"]
def isiB (a b : String) : Bool := a == b || (a == "bool" && b == "int")
theorem isiB_ok : ∀ a ∈ knownT, ∀ b ∈ knownT, kitB a b = some (isiB a b) := by decide +kernel
structure OwnC (K : PySem.W.Frag) (C : Addr) : Prop where
  cl : Cls K C
  ha : PySem.W.findIn K (.ref C) "__class__" = some (some (.builtin "object.__class__"))
  hn : PySem.W.specialIn K (.builtin "object.__class__") "__get__" = some (some (.builtin "getset_descriptor.__get__"))
  ht : PySem.W.takesIn K (.builtin "object.__class__") = some true
  hm : PySem.W.mroIn K C (.type "object") = some true
/-- what is known of the classes -/
structure TxOk (T : Tx) (own : Nat → Bool) : Prop where
  bi : ∀ t ∈ knownT, ∀ c, c < T.n → PySem.W.kitOne T.K (.type t) (.ref (T.ct c)) = some false
  ob : ∀ c d, c < T.n → d < T.n → PySem.W.kitOne T.K (.ref (T.ct c)) (.ref (T.ct d)) = some (T.sub c d)
  ot : ∀ c, c < T.n → own c = true → ∀ t ∈ knownT, PySem.W.kitOne T.K (.ref (T.ct c)) (.type t) = some false
  ow : ∀ c, c < T.n → own c = true → OwnC T.K (T.ct c)
section
variable {T : Tx} {X : Cx} {W : WX} {own : Nat → Bool}
def isiX (n : Nat) (sub : Nat → Nat → Bool) (own : Nat → Bool) (xs : List Xv) (s : Sto) : Res := match xs with
  | [.d (.obj c _ _), .d (.cls k)] => if c < n ∧ k < n ∧ own c = true then okB (sub c k) s else .stuck
  | [.d (.obj c _ _), .d (.ty m)] => if c < n ∧ knownT.contains m = true ∧ own c = true then okB false s else .stuck
  | [x, .d (.ty m)] => match tyn x s with
    | some t => if knownT.contains m = true then okB (isiB t m) s else .stuck
    | none => .stuck
  | [x, .d (.cls k)] => match tyn x s with
    | some _ => if k < n then okB false s else .stuck
    | none => .stuck
  | _ => .stuck
theorem tyn_mem {x : Xv} {s : Sto} {t : String} (h : tyn x s = some t) : t ∈ knownT := by
  unfold tyn at h
  split at h
  iterate 5
    · cases h
      decide
  · split at h
    · cases h
      decide
    · cases h
theorem tyn_ok {w : Wd} {s : Sto} {H : Hp} {x : Xv} {v : V} {t : String} (r : RS T w s H) (e : RX T w x v) (h : tyn x s = some t) : TyX T.K H v (.type t) := by
  unfold tyn at h
  split at h
  · cases h
    cases X_non e
    exact .base .non
  · cases h
    cases X_bl e
    exact .base (.bl _)
  · cases h
    cases X_int e
    exact .base (.int _)
  · cases h
    cases X_str e
    exact .base (.str _)
  · rename_i s' xs
    cases h
    have e' : R T w.G (.tup xs) v := e
    unfold R at e'
    obtain ⟨a, vs, e1, e2, e3⟩ := e'
    subst e1
    rcases e2 with (e2 | ⟨o, e2⟩) | ⟨o, its, n, k1, k2, _⟩
    · exact .base (.tup (r.g _ _ e2))
    · exact .fTuple (r.g _ _ e2)
    · exact .kTuple k1 k2
  · split at h
    · rename_i xs hv
      cases h
      obtain ⟨a, us, e1, e2, e3⟩ := viewL_ok r e hv
      subst e1
      exact .base (.lst e2)
    · cases h
theorem cls_v {w : Wd} {k : Nat} {v : V} (h : RX T w (.d (.cls k)) v) : v = .ref (T.ct k) := by
  have h' : R T w.G (.cls k) v := h
  unfold R at h'
  exact h'
theorem ty_v {w : Wd} {k : String} {v : V} (h : RX T w (.d (.ty k)) v) : v = .ty k := by
  have h' : R T w.G (.ty k) v := h
  unfold R at h'
  exact h'
theorem obj_ty {w : Wd} {s : Sto} {H : Hp} {c : Nat} {ns : List Str} {xs : List D} {v : V} (r : RS T w s H) (O : OwnC T.K (T.ct c)) (h : RX T w (.d (.obj c ns xs)) v) : TyX T.K H v (.ref (T.ct c)) := by
  have h' : R T w.G (.obj c ns xs) v := h
  unfold R at h'
  obtain ⟨a, dx, fs, e1, e2, _⟩ := h'
  subst e1
  exact .base (.ins (r.g _ _ e2) O.cl O.ha O.hn O.ht O.hm)
theorem isi_ok (K : TxOk T own) : OpN T W (rIsi T.K) (isiX T.n T.sub own) := by
  intro st w xs vs s H Q hx r p
  unfold isiX at p
  split at p
  · obtain ⟨v, u, rfl, e, f⟩ := rxs2 hx
    split at p
    · rename_i h
      cases cls_v f
      exact ⟨_, _, _, _, _, rfl, .own _, obj_ty r (K.ow _ h.1 h.2.2) e, K.ob _ _ h.1 h.2.1, okB_q p r⟩
    · exact p.elim
  · obtain ⟨v, u, rfl, e, f⟩ := rxs2 hx
    split at p
    · rename_i h
      cases ty_v f
      exact ⟨_, _, _, _, _, rfl, .ty _, obj_ty r (K.ow _ h.1 h.2.2) e, K.ot _ h.1 h.2.2 _ (List.contains_iff_mem.mp h.2.1), okB_q p r⟩
    · exact p.elim
  · obtain ⟨v, u, rfl, e, f⟩ := rxs2 hx
    split at p
    · rename_i t ht
      split at p
      · rename_i h
        cases ty_v f
        exact ⟨_, _, _, _, _, rfl, .ty _, tyn_ok r e ht, kit_ty (isiB_ok _ (tyn_mem ht) _ (List.contains_iff_mem.mp h)), okB_q p r⟩
      · exact p.elim
    · exact p.elim
  · obtain ⟨v, u, rfl, e, f⟩ := rxs2 hx
    split at p
    · rename_i t ht
      split at p
      · rename_i h
        cases cls_v f
        exact ⟨_, _, _, _, _, rfl, .own _, tyn_ok r e ht, K.bi _ (tyn_mem ht) _ h, okB_q p r⟩
      · exact p.elim
    · exact p.elim
  · exact p.elim

/-! ### defs -/
/-- room, and no repr is under way -/
structure RoomG (k : Nat) (A : Around) : Prop where
  room : Room k A
  gd : A.guards = some []
theorem RoomG.mono {j k : Nat} {A : Around} (r : RoomG k A) (h : j ≤ k) : RoomG j A := ⟨r.room.mono h, r.gd⟩
theorem RoomG.deeper {k : Nat} {A : Around} (r : RoomG (k + 1) A) (env : Env) : RoomG k (A.deeper env) := ⟨r.room.deeper env, r.gd⟩
/-- a def keeps its promise, where there is such room -/
structure FnG (P : Program) (w : World) (K : PySem.W.Frag) (mg : Str → Option Value) (base : Heap) (k : Nat) (f : Addr) (fd : FuncData) (ps : List Str) (sp : Sp) : Prop where
  len : ∀ vs H Q E, sp vs H Q E → vs.length = ps.length
  run : ∀ (A : Around) (outer : List Env) (s : Shared) (H : Hp) (args : Args) (us : List Value) (vs : List V) (Q : VK) (E : XK), RoomG k A → Env0 P w K mg base A outer s H →
    BindsTo s fd args (ps.zip us) → Vals vs us → sp vs H Q E → codeAny (model P w) A (.call (.ref f) args) (CR (L2.CX P w) outer P w H s Q E) s
theorem FnG.mono {P : Program} {w : World} {K : PySem.W.Frag} {mg : Str → Option Value} {base : Heap} {j k : Nat} {f : Addr} {fd : FuncData} {ps : List Str} {sp : Sp} (F : FnG P w K mg base j f fd ps sp) (h : j ≤ k) : FnG P w K mg base k f fd ps sp :=
  ⟨F.len, fun A outer s H args us vs Q E hr => F.run A outer s H args us vs Q E (hr.mono h)⟩
theorem FnG.imp {P : Program} {w : World} {K : PySem.W.Frag} {mg : Str → Option Value} {base : Heap} {k : Nat} {f : Addr} {fd : FuncData} {ps : List Str} {sp sp' : Sp} (F : FnG P w K mg base k f fd ps sp) (h : ∀ vs H Q E, sp' vs H Q E → sp vs H Q E) : FnG P w K mg base k f fd ps sp' :=
  ⟨fun vs H Q E q => F.len vs H Q E (h _ _ _ _ q), fun A outer s H args us vs Q E hr he hb hv hs => F.run A outer s H args us vs Q E hr he hb hv (h _ _ _ _ hs)⟩
/-- a def by its body -/
theorem fnG_of {P : Program} {w : World} {K : PySem.W.Frag} {mg : Str → Option Value} {base : Heap} {k : Nat} {f : Addr} {name qual : Str} {params : Arguments} {body : List Stmt} {scope : Scope} {dV kV doc pm cdv ct oc : Value} {an od : Option Addr} {osl : Array (Option Value)} {N ps : List Str} {sp : Sp}
    (lk : K.lookup f = some ⟨oc, od, .func (PySem.W.fnOf name qual params body scope dV kV doc pm an cdv ct), osl⟩) (hcd : PySem.W.codeIn K cdv qual = true) (S : FnScope N ps scope) (len : ∀ vs H Q E, sp vs H Q E → vs.length = ps.length)
    (hbody : ∀ (A : Around) (outer : List Env) (s : Shared) (H : Hp) (vs : List V) (Q : VK) (E : XK), RoomG k (A.deeper (envOfC qual scope s.heap.objs.size f cdv)) → sp vs H Q E →
      ∃ t, PSs (cxOf (L2.CX P w) P w K mg base N qual scope f cdv A outer s H E) body t ∧ t { nx := fun _ H' => Q .non H', rt := Q } (start N vs) H) :
    FnG P w K mg base (k + 1) f (PySem.W.fnOf name qual params body scope dV kV doc pm an cdv ct) ps sp := by
  refine ⟨len, fun A outer s H args us vs Q E hr e0 hb r hsp => ?_⟩
  have kin : K.In s.heap := e0.mod.kin.keeps fun b o e => (e0.bs b o e).1
  have nolim : s.heap.NoLimit := e0.mod.nolimit.keeps fun b o e => (e0.bs b o e).1
  have ck : ∀ y ∈ ps.zip us, scope.names.lookup y.1 = some .local ∨ (scope.names.lookup y.1 = some .cell ∧ ((cellsFrom (s.heap.objs.size + 1) scope.names []).lookup y.1).isSome = true) := by
    rintro ⟨n, v⟩ hy
    exact (S.par n (List.of_mem_zip hy).1).imp id fun q => ⟨q, PySem.W.cellsFrom_some _ _ _ (.inl q)⟩
  refine codeAny_call_function hr.room.depth (kin _ _ lk) rfl S.co S.gen rfl (PySem.W.codeRec_of kin hcd) (hb _ _ _ _ ?_)
  refine wpAny_newFunctionEnv_cells S.kind ck fun env he s1 x => ?_
  subst he
  refine ⟨nolim.keeps x.toInCall.keep, codeAny_func ?_⟩
  obtain ⟨t, ht, hq⟩ := hbody A outer s H vs Q E (hr.deeper _) hsp
  have I0 := inv_start (CX := L2.CX P w) (E := E) (P := P) (w := w) (cd := cdv) (f := f) (qual := qual) S hr.room.hd e0 (len _ _ _ _ hsp) r x
  refine wpAny_mono (ht.run [] s1 (start N vs) H _ I0 hq) (fun fl s' hs => ?_) fun e s' hs => hs
  cases fl with
  | next =>
    obtain ⟨σ', H', J, q⟩ := hs
    exact ⟨.non, H', J.os, J.bare, J.base, J.hok, rfl, q⟩
  | ret u =>
    obtain ⟨v, σ', H', J, rv, q⟩ := hs
    exact ⟨v, H', J.os, J.bare, J.base, J.hok, rv, q⟩
  | brk => exact hs.elim fun _ z => z.elim fun _ z => z.2.elim
  | cont => exact hs.elim fun _ z => z.elim fun _ z => z.2.elim
/-- a callee runs; what it raises is wished for at the caller's slots -/
theorem run_fnG {k : Nat} {f : Addr} {fd : FuncData} {ps : List Str} {sp : Sp} {dvs : List V} {ds : List Value} {E : XK} {pins : List (Addr × Obj)} {σ : L2.St} {H : Hp} {s : Shared} {Q : VK} {us : List Value} {vs : List V}
    (F : FnG X.prog X.w X.K X.mg X.base k f fd ps sp) (hr : RoomG k X.A) (hb : Binds X.K fd ps ds) (hd : Vals dvs ds) (hx : PassesAt (L2.CX X.prog X.w) X σ E) (I : Inv X pins σ H s) (r : Vals vs us) (h : sp (vs ++ dvs) H Q E) :
    wpAny (model X.prog X.w) X.A (call (.ref f) us) (EP X pins σ Q) X.xe s := by
  have ra : Vals (vs ++ dvs) (us ++ ds) := r.append hd
  have hl : (us ++ ds).length = ps.length := ra.length.symm.trans (F.len _ _ _ _ h)
  refine wpAny_call (codeAny_mono (F.run X.A X.stack s H ⟨us, []⟩ _ _ Q E hr I.env0 (hb s us I.kIn hl) ra h) fun res s' hq => ?_)
  cases res with
  | error e => exact hx pins H s e s' I hq
  | ok fl =>
    cases fl with
    | ret u => exact I.after hq
    | next => exact (show False from hq).elim
    | brk => exact (show False from hq).elim
    | cont => exact (show False from hq).elim
def tCallG (sp : Sp) (dvs : List V) (E : L2.St → XK) (t : TA) : TE := fun σ H Q => t σ H fun vs H1 => sp (vs ++ dvs) H1 Q (E σ)
theorem pe_callG {k : Nat} {f : Addr} {fd : FuncData} {ps : List Str} {sp : Sp} {dvs : List V} {ds : List Value} {E : L2.St → XK} {x : Str} {p pos : Pos} {e : Expr} {es : List Expr} {t : TA}
    (F : FnG X.prog X.w X.K X.mg X.base k f fd ps sp) (hr : RoomG k X.A) (hg : Gl X x) (hm : X.mg x = some (.ref f)) (hk : PySem.W.keepIn X.K (.ref f) = true) (hb : Binds X.K fd ps ds) (hd : Vals dvs ds) (hx : ∀ σ, PassesAt (L2.CX X.prog X.w) X σ (E σ))
    (ha : PA X (e :: es) t) (hdb : (x == ("__debug__" : Str)) = false := by decide) (he : starEach (e :: es) X.env = (false, eval e X.env) :: starEach es X.env := by rfl) (hpl : (backTo pos (starEach es X.env)).any (·.1) = false := by rfl) :
    PE X (.Call (.Name x p) (e :: es) [] pos) (tCallG sp dvs E t) := ⟨fun pins s σ H Q I h =>
  wpAny_Call_Name_kw (ld_glob I hg hm (PySem.W.callWith_K (h₀ := X.base) I.ok.mod.kin hk (thn (ha.run pos pins s σ H _ I h) fun us s1 ⟨vs, H1, I1, r, q⟩ => ⟨I1.kIn, run_fnG F hr hb hd (hx σ) I1 r q⟩) he hpl) hdb)⟩
theorem pe_callG0 {k : Nat} {f : Addr} {fd : FuncData} {ps : List Str} {sp : Sp} {dvs : List V} {ds : List Value} {E : L2.St → XK} {x : Str} {p pos : Pos}
    (F : FnG X.prog X.w X.K X.mg X.base k f fd ps sp) (hr : RoomG k X.A) (hg : Gl X x) (hm : X.mg x = some (.ref f)) (hk : PySem.W.keepIn X.K (.ref f) = true) (hb : Binds X.K fd ps ds) (hd : Vals dvs ds) (hx : ∀ σ, PassesAt (L2.CX X.prog X.w) X σ (E σ))
    (hdb : (x == ("__debug__" : Str)) = false := by decide) : PE X (.Call (.Name x p) [] [] pos) (tCallG sp dvs E tNil) := ⟨fun pins s σ H Q I h =>
  wpAny_Call_Name_kw (ld_glob I hg hm (PySem.W.callWith_K0 I.kIn hk (run_fnG (us := []) F hr hb hd (hx σ) I .nil h)) hdb)⟩
end
end FL

set_option Elab.async false
set_option linter.all false
set_option maxRecDepth 100000
set_option maxHeartbeats 4000000
namespace FL
open PySem PySem.Spec PyProof.Rows L2
/-- what a def computes: of values and the changing objects handed in -/
abbrev Fn := List Xv → Sto → Res
def PostC (T : Tx) (w : Wd) (r : Res) (Q : VK) (E : XK) : Prop := match r with
  | .ok v s => ∀ w' u H', Le w w' → RX T w' v u → RS T w' s H' → Q u H'
  | .exc e s => ∀ w' cls d H', Le w w' → RExc T w' e cls d → RS T w' s H' → E cls d H'
  | .stuck => False
/-- the promise: n values, F says the rest -/
def spF (T : Tx) (n : Nat) (F : Fn) : Sp := fun vs H Q E => ∃ w ds s, ds.length = n ∧ RXs T w ds vs ∧ RS T w s H ∧ PostC T w (F ds s) Q E
/-- a body as a function -/
def bodyF (n : Nat) (f : FS) : Fn := fun ds s => match f (ds.map some ++ List.replicate n none) s with
  | .nx _ s' => .ok (.d .non) s'
  | .rt v s' => .ok v s'
  | .exc e _ s' => .exc e s'
  | _ => .stuck
section
variable {T : Tx} {X : Cx} {W : WX}
theorem re_start {w : Wd} {ds : List Xv} {vs : List V} {N : List Str} {n : Nat} (h : RXs T w ds vs) (hn : n = N.length - vs.length) : RE T w (ds.map some ++ List.replicate n none) (L2.start N vs) := by
  have hl := h.length
  refine ⟨by unfold L2.start; simp [hl, hn], fun i v e => ?_⟩
  have hi : i < ds.length := by
    by_cases hi : i < ds.length
    · exact hi
    · rw [List.getElem?_append_right (by simpa using hi), List.getElem?_replicate] at e
      split at e <;> cases e
  rw [List.getElem?_append_left (by simpa using hi), List.getElem?_map] at e
  have key : ∀ (ds : List Xv) (vs : List V) (i : Nat) (v : Xv), RXs T w ds vs → ds[i]? = some v → ∃ u, vs[i]? = some u ∧ RX T w v u := by
    intro ds
    induction ds with
    | nil => intro vs i v _ h; simp at h
    | cons d ds ih =>
      rintro vs i v ⟨u, r, e1, e2, e3⟩ h
      subst e1
      cases i with
      | zero =>
        simp at h
        subst h
        exact ⟨u, rfl, e2⟩
      | succ i => exact ih r i v e3 (by simpa using h)
  cases q : ds[i]? with
  | none => rw [q] at e; cases e
  | some d =>
    rw [q] at e
    cases e
    obtain ⟨u, e1, e2⟩ := key ds vs i v h q
    refine ⟨u, ?_, e2⟩
    unfold L2.start
    rw [List.getElem?_append_left (by rw [List.length_map, ← hl]; exact hi), List.getElem?_map, e1]
    rfl
/-- THE RULE: a def by its body -/
theorem fn_mk {P : Program} {w : World} {K : PySem.W.Frag} {mg : Str → Option Value} {base : Heap} {k : Nat} {x qual : Str} {params : Arguments} {body : List Stmt} {scope : Scope} {dvs : List V} {kws : List (Str × V)} {f : Addr} {fd : FuncData} {N ps : List Str} {fs : FS}
    (F : FunD K x qual params body scope dvs kws f fd) (S : FnScope N ps scope)
    (h : ∀ (X : Cx) (W : WX), X.prog = P → X.w = w → X.K = K → X.mg = mg → X.base = base → X.calm = true → X.N = N → X.ex = [] → X.env.scope = scope → X.stack = X.env :: X.outer → X.env.frame = some X.env.locals → (∀ y, X.fn y = true) →
      RoomG k X.A → Takes X W → PassesOwn (model X.prog X.w) X.A X.env X.xe → PFSs T X W body fs) :
    FnG P w K mg base (k + 1) f fd ps (spF T ps.length (bodyF (N.length - ps.length) fs)) := by
  obtain ⟨oc, od, dV, kV, doc, pm, an, cdv, ct, osl, rfl, lk, hcd, _, _⟩ := F.ex
  refine fnG_of lk hcd S (fun vs H Q E ⟨w, ds, s, h1, h2, _⟩ => by rw [← h2.length]; exact h1) fun A outer s H vs Q E hr ⟨w0, ds, s0, h1, h2, h3, h4⟩ => ?_
  have hl := h2.length
  refine ⟨_, h (cxOf (L2.CX P w) P w K mg base N qual scope f cdv A outer s H E) (fun cls d _ H => E cls d H) rfl rfl rfl rfl rfl rfl rfl rfl rfl rfl rfl (fun _ => rfl) hr (takes_of rfl rfl rfl rfl) (passes_of rfl), ?_⟩
  refine ⟨w0, ds.map some ++ List.replicate (N.length - ps.length) none, s0, re_start h2 (by rw [← hl, h1]), h3, ?_⟩
  unfold bodyF at h4
  revert h4
  cases fs (ds.map some ++ List.replicate (N.length - ps.length) none) s0 with
  | nx r s' => exact fun p w' st H' l e1 e2 => p w' _ H' l rX_non e2
  | rt v s' => exact fun p w' u H' l e1 e2 => p w' u H' l e1 e2
  | exc e r s' => exact fun p w' cls d st H' l e1 _ e2 => p w' cls d H' l e1 e2
  | bk r s' => exact fun p => p.elim
  | ct r s' => exact fun p => p.elim
  | stuck => exact fun p => p.elim

/-! ### a call -/
/-- the changing objects among the values -/
def refsOf : List Xv → List Nat
  | [] => []
  | .d _ :: xs => refsOf xs
  | .ref i :: xs => i :: refsOf xs
/-- a new object goes on: as it is (m), or as plain data -/
def mkO (m : Bool) (o : O) (s : Sto) : Res := match m, o with
  | true, .dead => .stuck
  | true, o => .ok (.ref s.length) (s ++ [o])
  | false, .lst xs => .ok (.d (.lst xs)) s
  | false, .ins c ns vs => .ok (.d (.obj c ns vs)) s
  | false, .dead => .stuck
/-- plain values alone: the callee begins with no object -/
def run0 (m : Bool) (F : Fn) (xs : List Xv) (s : Sto) : Res := match F xs [] with
  | .ok (.d v) _ => .ok (.d v) s
  | .ok (.ref j) s2 => match s2[j]? with | some o => mkO m o s | none => .stuck
  | .exc e _ => .exc e s
  | .stuck => .stuck
def zero : List Xv → List Xv
  | [] => []
  | .d v :: xs => .d v :: zero xs
  | .ref _ :: xs => .ref 0 :: zero xs
def get0 : Sto → Option O
  | .dead :: _ => none
  | o :: _ => some o
  | [] => none
theorem get0_ok : ∀ {s : Sto} {o : O}, get0 s = some o → s[0]? = some o ∧ o ≠ .dead
  | .dead :: _, _, h => by cases h
  | .lst xs :: _, _, h => by cases h; exact ⟨rfl, fun z => nomatch z⟩
  | .ins _ _ _ :: _, _, h => by cases h; exact ⟨rfl, fun z => nomatch z⟩
  | [], _, h => by cases h
/-- one object is handed in -/
def run1 (m : Bool) (F : Fn) (xs : List Xv) (i : Nat) (s : Sto) : Res := match s[i]? with
  | some .dead => .stuck
  | none => .stuck
  | some o => match F (zero xs) [o] with
    | .ok (.d v) s2 => match get0 s2 with | some o2 => .ok (.d v) (s.set i o2) | none => .stuck
    | .ok (.ref j) s2 => match get0 s2 with
      | some o2 => if j = 0 then .ok (.ref i) (s.set i o2) else match s2[j]? with | some u => mkO m u (s.set i o2) | none => .stuck
      | none => .stuck
    | .exc e s2 => match get0 s2 with | some o2 => .exc e (s.set i o2) | none => .stuck
    | .stuck => .stuck
def allEq (i : Nat) : List Nat → Bool
  | [] => true
  | j :: r => j == i && allEq i r
def runC (m : Bool) (F : Fn) (xs : List Xv) (s : Sto) : Res := match refsOf xs with
  | [] => run0 m F xs s
  | i :: r => if allEq i r = true then run1 m F xs i s else .stuck
def callF (m : Bool) (F : Fn) (dv : List D) (g : FA) : FE := fun ρ s => (g ρ s).bind fun xs s1 => runC m F (xs ++ dv.map .d) s1
/-- what lives -/
def Lv (w : Wd) (s : Sto) (a : Addr) : Prop := ∃ (i : Nat) (o : O), s[i]? = some o ∧ o ≠ .dead ∧ w.io[i]? = some a
open Classical in
/-- all live objects but one are held -/
noncomputable def hold (w : Wd) (s : Sto) (H : Hp) (b : Option Addr) : Hp := fun a => if Lv w s a ∧ some a ≠ b then H a else w.Z a
theorem hold_lv {w : Wd} {s : Sto} {H : Hp} {b : Option Addr} {a : Addr} (h : Lv w s a) (hb : some a ≠ b) : hold w s H b a = H a := if_pos ⟨h, hb⟩
theorem hold_z {w : Wd} {s : Sto} {H : Hp} {b : Option Addr} {a : Addr} {o : HO} (r : RS T w s H) (h : w.Z a = some o) : hold w s H b a = some o := by
  unfold hold
  rw [if_neg, h]
  rintro ⟨⟨i, u, e1, e2, e3⟩, _⟩
  obtain ⟨_, _, _, _, z⟩ := r.live i u a e1 e2 e3
  rw [z] at h
  cases h
theorem hold_same {w : Wd} {s : Sto} {H : Hp} {b : Option Addr} (r : RS T w s H) : Same (hold w s H b) H := fun a o h => by
  unfold hold at h
  split at h
  · exact h
  · exact r.z _ _ h
theorem hold_g {w : Wd} {s : Sto} {H : Hp} {b : Option Addr} (r : RS T w s H) {a : Addr} {o : HO} (h : hold w s H b a = some o) : w.G a = none := by
  unfold hold at h
  split at h
  · rename_i q
    obtain ⟨⟨i, u, e1, e2, e3⟩, _⟩ := q
    obtain ⟨_, _, _, z, _⟩ := r.live i u a e1 e2 e3
    exact z
  · exact r.gz _ _ h
theorem rxs_pure {w w' : Wd} (hg : w'.G = w.G) : ∀ {xs : List Xv} {vs : List V}, refsOf xs = [] → RXs T w xs vs → RXs T w' xs vs
  | [], vs, _, e => e
  | .d x :: xs, vs, h, ⟨v, r, e1, e2, e3⟩ => ⟨v, r, e1, by
    show R T w'.G x v
    rw [hg]
    exact e2, rxs_pure hg h e3⟩
  | .ref _ :: xs, vs, h, _ => by cases h
theorem RX.sameG {w w' : Wd} {x : D} {v : V} (hg : w'.G = w.G) (h : RX T w (.d x) v) : RX T w' (.d x) v := by
  show R T w'.G x v
  rw [hg]
  exact h
/-- behind a call that was handed no object: the caller's world -/
theorem back0 {w w' : Wd} {s s' : Sto} {H H' : Hp} (r : RS T w s H) (l : Le { w with io := [], Z := hold w s H none } w') (r' : RS T w' s' H') : Le w { w with G := w'.G } ∧ RS T { w with G := w'.G } s H' := by
  have zz : ∀ {a : Addr} {o : HO}, hold w s H none a = some o → H' a = some o ∧ w'.G a = none := fun {a o} h => by
    have e : w'.Z = hold w s H none := l.z
    exact ⟨r'.z _ _ (by rw [e]; exact h), r'.gz a o (by rw [e]; exact h)⟩
  refine ⟨⟨l.g, rfl, [], by simp⟩, ⟨r'.g, fun a o h => (zz (hold_z r h)).1, fun a o h => (zz (hold_z r h)).2, r.len, fun i o a e1 e2 e3 => ?_, r.inj⟩⟩
  obtain ⟨ho, h1, h2, h3, h4⟩ := r.live i o a e1 e2 e3
  have q := zz ((hold_lv (w := w) (s := s) (H := H) (b := none) ⟨i, o, e1, e2, e3⟩ (by intro z; cases z)).trans h1)
  exact ⟨ho, q.1, RO.mono l.g h2, q.2, h4⟩
/-- a callee's new object -/
theorem new_of {w w' : Wd} {s s' : Sto} {H H' : Hp} {b : Option Addr} (r : RS T w s H) (hz : w'.Z = hold w s H b) (r' : RS T w' s' H') {j : Nat} {o : O} {a : Addr} (e1 : s'[j]? = some o) (e2 : o ≠ .dead) (e3 : w'.io[j]? = some a) (hb : some a ≠ b) :
    ∃ ho, H' a = some ho ∧ RO T w'.G o ho ∧ w'.G a = none ∧ w.Z a = none ∧ ¬ Lv w s a := by
  obtain ⟨ho, h1, h2, h3, h4⟩ := r'.live j o a e1 e2 e3
  have nl : ¬ Lv w s a := fun hl => by
    rw [hz, hold_lv hl hb] at h4
    obtain ⟨i, u, q1, q2, q3⟩ := hl
    obtain ⟨_, k, _⟩ := r.live i u a q1 q2 q3
    rw [h4] at k
    cases k
  refine ⟨ho, h1, h2, h3, ?_, nl⟩
  cases z : w.Z a with
  | none => rfl
  | some u =>
    rw [hz, hold_z (b := b) r z] at h4
    cases h4
/-- a new object joins the store, or the plain data -/
theorem join_new {W : WX} {st : L2.St} {w : Wd} {s : Sto} {H : Hp} {m : Bool} {o : O} {ho : HO} {a : Addr} {Q : VK} (r : RS T w s H) (h1 : H a = some ho) (h2 : RO T w.G o ho) (h3 : w.G a = none) (h4 : w.Z a = none) (h5 : ¬ Lv w s a) (p : PostE T W st w (mkO m o s) Q) : Q (.ref a) H := by
  have keep : o ≠ .dead → Le w { w with io := w.io ++ [a] } ∧ RS T { w with io := w.io ++ [a] } (s ++ [o]) H := fun hd => by
    have at1 : ∀ {i : Nat} {v : O} {b : Addr}, (s ++ [o])[i]? = some v → (w.io ++ [a])[i]? = some b → (s[i]? = some v ∧ w.io[i]? = some b) ∨ (i = s.length ∧ v = o ∧ b = a) := fun {i v b} e1 e3 => by
      by_cases hi : i < s.length
      · rw [List.getElem?_append_left hi] at e1
        rw [List.getElem?_append_left (by rw [r.len]; exact hi)] at e3
        exact .inl ⟨e1, e3⟩
      · have hb := (List.getElem?_eq_some_iff.mp e1).1
        have hi2 : i = s.length := by simp at hb; omega
        rw [hi2, List.getElem?_append_right (Nat.le_refl _)] at e1
        rw [hi2, List.getElem?_append_right (by rw [r.len]; exact Nat.le_refl _), r.len] at e3
        simp at e1 e3
        exact .inr ⟨hi2, e1.symm, e3.symm⟩
    refine ⟨⟨Same.refl _, rfl, [a], rfl⟩, ⟨r.g, r.z, r.gz, by simp [r.len], fun i v b e1 e2 e3 => ?_, fun i j v v' b e1 e2 e3 e4 e5 e6 => ?_⟩⟩
    · rcases at1 e1 e3 with ⟨q1, q2⟩ | ⟨_, q2, q3⟩
      · exact r.live i v b q1 e2 q2
      · subst q2 q3
        exact ⟨ho, h1, h2, h3, h4⟩
    · rcases at1 e1 e5 with ⟨q1, q2⟩ | ⟨q1, q2, q3⟩
      · rcases at1 e3 e6 with ⟨k1, k2⟩ | ⟨_, _, k3⟩
        · exact r.inj i j v v' b q1 e2 k1 e4 q2 k2
        · exact absurd ⟨i, v, q1, e2, by rw [← k3]; exact q2⟩ h5
      · rcases at1 e3 e6 with ⟨k1, k2⟩ | ⟨k1, _, _⟩
        · exact absurd ⟨j, v', k1, e4, by rw [← q3]; exact k2⟩ h5
        · rw [q1, k1]
  have froz : Le w { w with G := upd w.G a ho } ∧ RS T { w with G := upd w.G a ho } s H := by
    have sg : Same w.G (upd w.G a ho) := fun b u e => by rw [upd_ne (ne_of_none e h3)]; exact e
    refine ⟨⟨sg, rfl, [], by simp⟩, ⟨fun b u e => ?_, r.z, fun b u e => ?_, r.len, fun i u b e1 e2 e3 => ?_, r.inj⟩⟩
    · by_cases hb : b = a
      · subst hb
        have e' : upd w.G b ho b = some u := e
        rw [upd_same] at e'
        rw [h1]
        exact e'
      · have e' : upd w.G a ho b = some u := e
        rw [upd_ne hb] at e'
        exact r.g _ _ e'
    · have hb : b ≠ a := ne_of_none e h4
      show upd w.G a ho b = none
      rw [upd_ne hb]
      exact r.gz _ _ e
    · obtain ⟨hb, q1, q2, q3, q4⟩ := r.live i u b e1 e2 e3
      have hne : b ≠ a := fun z => h5 ⟨i, u, e1, e2, by rw [← z]; exact e3⟩
      exact ⟨hb, q1, RO.mono sg q2, by show upd w.G a ho b = none; rw [upd_ne hne]; exact q3, q4⟩
  unfold mkO at p
  split at p
  · exact p.elim
  · rename_i o' hd
    obtain ⟨l, r'⟩ := keep (fun z => hd z)
    refine p _ _ _ l ⟨a, ?_, rfl⟩ r'
    show (w.io ++ [a])[s.length]? = some a
    rw [← r.len]
    simp
  · obtain ⟨l, r'⟩ := froz
    obtain ⟨vs, e1, e2⟩ := h2
    refine p _ _ _ l ?_ r'
    show R T _ _ _
    unfold R
    exact ⟨a, vs, rfl, by show upd w.G a ho a = _; rw [upd_same, e1], Rs.mono l.g e2⟩
  · obtain ⟨l, r'⟩ := froz
    obtain ⟨dx, fs, e1, e2, e3⟩ := h2
    refine p _ _ _ l ?_ r'
    show R T _ _ _
    unfold R
    exact ⟨a, dx, fs, rfl, by show upd w.G a ho a = _; rw [upd_same, e1], e2, Rs.mono l.g e3⟩
  · exact p.elim
theorem rexc_g {w w' : Wd} {e : D} {cls : Value} {d : Option Addr} (hg : w'.G = w.G) (h : RExc T w e cls d) : RExc T w' e cls d := by
  obtain ⟨c, ns, xs, fs, h1, h2, h3, h4, h5⟩ := h
  exact ⟨c, ns, xs, fs, h1, h2, by rw [hg]; exact h3, h4, by rw [hg]; exact h5⟩
theorem run0_ok {st : L2.St} {w : Wd} {m : Bool} {F : Fn} {xs : List Xv} {vs : List V} {s : Sto} {H : Hp} {Q : VK} {n : Nat} (hn : xs.length = n) (h0 : refsOf xs = []) (x : RXs T w xs vs) (r : RS T w s H) (p : PostE T W st w (run0 m F xs s) Q) : spF T n F vs H Q (WE W st) := by
  refine ⟨{ w with io := [], Z := hold w s H none }, xs, [], hn, rxs_pure (w := w) (w' := { w with io := [], Z := hold w s H none }) rfl h0 x, ⟨r.g, hold_same r, fun a o h => hold_g r h, rfl, fun i o a e => by simp at e, fun i j o u a e => by simp at e⟩, ?_⟩
  unfold run0 at p
  cases hF : F xs [] with
  | ok v s2 =>
    rw [hF] at p
    intro w' u H' l rx r'
    obtain ⟨l2, r2⟩ := back0 r l r'
    cases v with
    | d v => exact PostE.mono l2 p _ _ _ (.refl _) (RX.sameG (w := w') rfl rx) r2
    | ref j =>
      dsimp only at p
      split at p
      · rename_i o ho
        obtain ⟨a, e1, e2⟩ := rx
        subst e2
        have hd : o ≠ .dead := fun z => by
          subst z
          unfold mkO at p
          cases m <;> exact p.elim
        obtain ⟨h', q1, q2, q3, q4, q5⟩ := new_of r l.z r' ho hd e1 (by intro z; cases z)
        exact join_new r2 q1 q2 q3 q4 q5 (PostE.mono l2 p)
      · exact p.elim
  | exc e s2 =>
    rw [hF] at p
    intro w' cls d H' l rx r'
    obtain ⟨l2, r2⟩ := back0 r l r'
    exact PostE.mono l2 p _ _ _ _ (.refl _) (rexc_g (w := w') rfl rx) r2
  | stuck =>
    rw [hF] at p
    exact p.elim
/-- behind a call that was handed one object -/
theorem back1 {w w' : Wd} {s s' : Sto} {H H' : Hp} {i : Nat} {a : Addr} {o o2 : O} (r : RS T w s H) (e1 : s[i]? = some o) (e2 : o ≠ .dead) (e3 : w.io[i]? = some a) (l : Le { w with io := [a], Z := hold w s H (some a) } w') (r' : RS T w' s' H') (h2 : s'[0]? = some o2) :
    Le w { w with G := w'.G } ∧ RS T { w with G := w'.G } (s.set i o2) H' := by
  have il : i < s.length := (List.getElem?_eq_some_iff.mp e1).1
  have zz : ∀ {b : Addr} {u : HO}, hold w s H (some a) b = some u → H' b = some u ∧ w'.G b = none := fun {b u} h => by
    have e : w'.Z = hold w s H (some a) := l.z
    exact ⟨r'.z _ _ (by rw [e]; exact h), r'.gz b u (by rw [e]; exact h)⟩
  have h0 : w'.io[0]? = some a := by
    obtain ⟨t, e⟩ := l.io
    rw [e]
    rfl
  have back : ∀ (m : Nat) (v : O), (s.set i o2)[m]? = some v → v ≠ .dead → ∃ v0, s[m]? = some v0 ∧ v0 ≠ .dead := fun m v q1 q2 => by
    by_cases hm : i = m
    · subst hm
      exact ⟨o, e1, e2⟩
    · rw [List.getElem?_set_ne hm] at q1
      exact ⟨v, q1, q2⟩
  refine ⟨⟨l.g, rfl, [], by simp⟩, ⟨r'.g, fun b u h => (zz (hold_z r h)).1, fun b u h => (zz (hold_z r h)).2, by simp [r.len], fun j v b q1 q2 q3 => ?_, fun j k v v' b q1 q2 q3 q4 q5 q6 => ?_⟩⟩
  · by_cases hj : i = j
    · subst hj
      have q3' : w.io[i]? = some b := q3
      rw [e3] at q3'
      cases q3'
      rw [List.getElem?_set_self il] at q1
      cases q1
      obtain ⟨ho, k1, k2, k3, _⟩ := r'.live 0 o2 a h2 q2 h0
      obtain ⟨_, _, _, _, k5⟩ := r.live i o a e1 e2 e3
      exact ⟨ho, k1, k2, k3, k5⟩
    · rw [List.getElem?_set_ne hj] at q1
      have q3' : w.io[j]? = some b := q3
      obtain ⟨ho, k1, k2, k3, k4⟩ := r.live j v b q1 q2 q3'
      have hne : b ≠ a := fun z => hj (r.inj i j o v a e1 e2 q1 q2 e3 (by rw [← z]; exact q3'))
      have q := zz ((hold_lv (w := w) (s := s) (H := H) (b := some a) ⟨j, v, q1, q2, q3'⟩ (fun z => hne (Option.some.inj z))).trans k1)
      exact ⟨ho, q.1, RO.mono l.g k2, q.2, k4⟩
  · obtain ⟨v0, k1, k2⟩ := back j v q1 q2
    obtain ⟨v1, k3, k4⟩ := back k v' q3 q4
    exact r.inj j k v0 v1 b k1 k2 k3 k4 q5 q6
theorem rxs_zero {w w' : Wd} {i : Nat} {a : Addr} (hg : w'.G = w.G) (e : w.io[i]? = some a) (e' : w'.io[0]? = some a) : ∀ {xs : List Xv} {vs : List V}, allEq i (refsOf xs) = true → RXs T w xs vs → RXs T w' (zero xs) vs
  | [], vs, _, h => h
  | .d x :: xs, vs, h, ⟨v, r, e1, e2, e3⟩ => ⟨v, r, e1, RX.sameG hg e2, rxs_zero hg e e' h e3⟩
  | .ref j :: xs, vs, h, ⟨v, r, e1, e2, e3⟩ => by
    have h' : (j == i && allEq i (refsOf xs)) = true := h
    rw [Bool.and_eq_true] at h'
    have hj : j = i := by simpa using h'.1
    subst hj
    obtain ⟨b, q1, q2⟩ := e2
    rw [e] at q1
    cases q1
    exact ⟨v, r, e1, ⟨a, e', q2⟩, rxs_zero hg e e' h'.2 e3⟩
theorem zero_length : ∀ xs : List Xv, (zero xs).length = xs.length
  | [] => rfl
  | .d _ :: xs => congrArg Nat.succ (zero_length xs)
  | .ref _ :: xs => congrArg Nat.succ (zero_length xs)
theorem run1_ok {st : L2.St} {w : Wd} {m : Bool} {F : Fn} {xs : List Xv} {vs : List V} {s : Sto} {H : Hp} {Q : VK} {n i : Nat} (hn : xs.length = n) (h0 : allEq i (refsOf xs) = true) (hm : i ∈ refsOf xs) (x : RXs T w xs vs) (r : RS T w s H) (p : PostE T W st w (run1 m F xs i s) Q) : spF T n F vs H Q (WE W st) := by
  unfold run1 at p
  split at p
  · exact p.elim
  · exact p.elim
  · rename_i o hnd hd
    have e2 : o ≠ .dead := fun z => hnd z
    have il : i < w.io.length := by
      rw [r.len]
      exact (List.getElem?_eq_some_iff.mp hd).1
    obtain ⟨a, e3⟩ : ∃ a, w.io[i]? = some a := ⟨_, List.getElem?_eq_getElem il⟩
    obtain ⟨ho, k1, k2, k3, k4⟩ := r.live i o a hd e2 e3
    have rz : ∀ {b : Addr}, hold w s H (some a) a = none := fun {b} => by
      unfold hold
      rw [if_neg (fun z => z.2 rfl)]
      exact k4
    have rr : RS T { w with io := [a], Z := hold w s H (some a) } [o] H := by
      refine ⟨r.g, hold_same r, fun b u h => hold_g r h, rfl, fun j v b q1 q2 q3 => ?_, fun j k u v b q1 _ q2 _ _ _ => ?_⟩
      · have hj : j = 0 := by
          have := (List.getElem?_eq_some_iff.mp q1).1
          simp at this
          exact this
        subst hj
        have q1' : o = v := by simpa using q1
        have q3' : a = b := by
          have q3'' : [a][0]? = some b := q3
          simpa using q3''
        subst q1' q3'
        exact ⟨ho, k1, k2, k3, rz (b := a)⟩
      · have h1 := (List.getElem?_eq_some_iff.mp q1).1
        have h2 := (List.getElem?_eq_some_iff.mp q2).1
        simp at h1 h2
        rw [h1, h2]
    refine ⟨{ w with io := [a], Z := hold w s H (some a) }, zero xs, [o], by rw [zero_length]; exact hn, rxs_zero (w := w) (w' := { w with io := [a], Z := hold w s H (some a) }) rfl e3 rfl h0 x, rr, ?_⟩
    split at p
    · rename_i v s2 hF
      rw [hF]
      split at p
      · rename_i o2 h2g
        obtain ⟨h2, hdd⟩ := get0_ok h2g
        intro w' u H' l rx r'
        obtain ⟨l2, r2⟩ := back1 r hd e2 e3 l r' h2
        exact PostE.mono l2 p _ _ _ (.refl _) (RX.sameG (w := w') rfl rx) r2
      · exact p.elim
    · rename_i j s2 hF
      rw [hF]
      split at p
      · rename_i o2 h2g
        obtain ⟨h2, hdd⟩ := get0_ok h2g
        intro w' u H' l rx r'
        obtain ⟨l2, r2⟩ := back1 r hd e2 e3 l r' h2
        obtain ⟨b, q1, q2⟩ := rx
        have h0' : w'.io[0]? = some a := by
          obtain ⟨t, e⟩ := l.io
          rw [e]
          rfl
        split at p
        · rename_i hj
          subst hj
          rw [h0'] at q1
          cases q1
          exact PostE.mono l2 p _ _ _ (.refl _) ⟨a, e3, q2⟩ r2
        · rename_i hj
          split at p
          · rename_i u2 hu
            subst q2
            have hd2 : u2 ≠ .dead := fun z => by
              subst z
              unfold mkO at p
              cases m <;> exact p.elim
            have hb : some b ≠ some a := fun z => by
              have zb : b = a := Option.some.inj z
              subst zb
              obtain ⟨ho2, g1, g2, g3, g4⟩ := r'.live j u2 b hu hd2 q1
              exact hj (r'.inj j 0 u2 o2 b hu hd2 h2 hdd q1 h0')
            obtain ⟨h', g1, g2, g3, g4, g5⟩ := new_of r l.z r' hu hd2 q1 hb
            refine join_new r2 g1 g2 g3 g4 (fun z => ?_) (PostE.mono l2 p)
            obtain ⟨jj, vv, z1, z2, z3⟩ := z
            refine g5 ?_
            by_cases hjj : i = jj
            · subst hjj
              have z3' : w.io[i]? = some b := z3
              exact ⟨i, o, hd, e2, z3'⟩
            · rw [List.getElem?_set_ne hjj] at z1
              exact ⟨jj, vv, z1, z2, z3⟩
          · exact p.elim
      · exact p.elim
    · rename_i e s2 hF
      rw [hF]
      split at p
      · rename_i o2 h2g
        obtain ⟨h2, hdd⟩ := get0_ok h2g
        intro w' cls d H' l rx r'
        obtain ⟨l2, r2⟩ := back1 r hd e2 e3 l r' h2
        exact PostE.mono l2 p _ _ _ _ (.refl _) (rexc_g (w := w') rfl rx) r2
      · exact p.elim
    · exact p.elim
theorem runC_ok {st : L2.St} {w : Wd} {m : Bool} {F : Fn} {xs : List Xv} {vs : List V} {s : Sto} {H : Hp} {Q : VK} {n : Nat} (hn : xs.length = n) (x : RXs T w xs vs) (r : RS T w s H) (p : PostE T W st w (runC m F xs s) Q) : spF T n F vs H Q (WE W st) := by
  unfold runC at p
  split at p
  · rename_i h
    exact run0_ok hn h x r p
  · rename_i i t h
    split at p
    · rename_i ha
      refine run1_ok (i := i) hn ?_ ?_ x r p
      · rw [h]
        show (i == i && allEq i t) = true
        rw [ha, beq_self_eq_true]
        rfl
      · rw [h]
        exact List.mem_cons_self ..
    · exact p.elim
theorem RXs.append {w : Wd} : ∀ {xs ys : List Xv} {vs us : List V}, RXs T w xs vs → RXs T w ys us → RXs T w (xs ++ ys) (vs ++ us)
  | [], ys, vs, us, e, h => by
    have e' : vs = [] := e
    subst e'
    exact h
  | d :: ds, ys, vs, us, ⟨v, r, e1, e2, e3⟩, h => by
    subst e1
    exact ⟨v, r ++ us, rfl, e2, e3.append h⟩
theorem rxs_of_rs {w : Wd} : ∀ {ds : List D} {vs : List V}, Rs T w.G ds vs → RXs T w (ds.map .d) vs
  | [], vs, h => by
    unfold Rs at h
    exact h
  | d :: ds, vs, h => by
    unfold Rs at h
    obtain ⟨v, r, e1, e2, e3⟩ := h
    exact ⟨v, r, e1, e2, rxs_of_rs e3⟩
/-- f(e, ..) -/
theorem pf_call {k : Nat} {f : Addr} {fd : FuncData} {ps : List Str} {F : Fn} {n : Nat} {dv : List D} {dvs : List V} {ds : List Value} {x : Str} {p pos : Pos} {e : Expr} {es : List Expr} {g : FA} (m : Bool)
    (G : FnG X.prog X.w X.K X.mg X.base k f fd ps (spF T n F)) (hr : RoomG k X.A) (tk : Takes X W) (hm : X.mg x = some (.ref f)) (hk : PySem.W.keepIn X.K (.ref f) = true) (hb : Binds X.K fd ps ds) (hd : Vals dvs ds) (hv : ∀ G, Rs T G dv dvs)
    (ha : PFA T X W (e :: es) g) (hl : (e :: es).length + dv.length = n := by rfl) (hg : Gl X x := by rfl) (hdb : (x == ("__debug__" : Str)) = false := by decide) (he : starEach (e :: es) X.env = (false, eval e X.env) :: starEach es X.env := by rfl)
    (hpl : (backTo pos (starEach es X.env)).any (·.1) = false := by rfl) (hgl : ∀ ρ s xs s1, g ρ s = .ok xs s1 → xs.length = (e :: es).length) :
    PF T X W (.Call (.Name x p) (e :: es) [] pos) (callF m F dv g) :=
  PE.imp (pe_callG (E := WE W) G hr hg hm hk hb hd (fun σ => passAt tk σ) ha hdb he hpl) fun st H Q ⟨w, ρ, s, e0, q, p0⟩ => by
    refine ⟨w, ρ, s, e0, q, ?_⟩
    have hq := hgl ρ s
    unfold callF at p0
    revert p0 hq
    cases g ρ s with
    | exc a b => exact fun p _ => p
    | stuck => exact fun p _ => p
    | ok xs s1 =>
      intro p0 hq w1 us H1 l x1 r1
      exact runC_ok (by rw [List.length_append, List.length_map, hq xs s1 rfl]; exact hl) (x1.append (rxs_of_rs (hv _))) r1 (PostE.mono l p0)
theorem pf_call0 {k : Nat} {f : Addr} {fd : FuncData} {ps : List Str} {F : Fn} {n : Nat} {dv : List D} {dvs : List V} {ds : List Value} {x : Str} {p pos : Pos} (m : Bool)
    (G : FnG X.prog X.w X.K X.mg X.base k f fd ps (spF T n F)) (hr : RoomG k X.A) (tk : Takes X W) (hm : X.mg x = some (.ref f)) (hk : PySem.W.keepIn X.K (.ref f) = true) (hb : Binds X.K fd ps ds) (hd : Vals dvs ds) (hv : ∀ G, Rs T G dv dvs)
    (hl : dv.length = n := by rfl) (hg : Gl X x := by rfl) (hdb : (x == ("__debug__" : Str)) = false := by decide) : PF T X W (.Call (.Name x p) [] [] pos) (callF m F dv nilA) :=
  PE.imp (pe_callG0 (E := WE W) G hr hg hm hk hb hd (fun σ => passAt tk σ) hdb) fun st H Q ⟨w, ρ, s, e0, q, p0⟩ =>
    runC_ok (w := w) (s := s) (xs := dv.map .d) (by rw [List.length_map]; exact hl) (rxs_of_rs (hv _)) q p0
/-- how many values an argument list gives -/
def LenA (g : FA) (n : Nat) : Prop := ∀ ρ s xs s1, g ρ s = .ok xs s1 → xs.length = n
theorem len_nil : LenA nilA 0 := fun ρ s xs s1 h => by
  cases h
  rfl
theorem len_cons {f : FE} {g : FA} {n : Nat} (h : LenA g n) : LenA (consA f g) (n + 1) := fun ρ s xs s1 k => by
  unfold consA at k
  cases hf : f ρ s with
  | exc a b => rw [hf] at k; cases k
  | stuck => rw [hf] at k; cases k
  | ok x s2 =>
    rw [hf] at k
    have k' : (g ρ s2).bindA (fun xs s2 => ResL.ok (x :: xs) s2) = .ok xs s1 := k
    cases hg : g ρ s2 with
    | exc a b => rw [hg] at k'; cases k'
    | stuck => rw [hg] at k'; cases k'
    | ok ys s3 =>
      rw [hg] at k'
      cases k'
      rw [List.length_cons, h _ _ _ _ hg]
end
end FL

set_option Elab.async false
set_option linter.all false
set_option maxRecDepth 100000
set_option maxHeartbeats 4000000
namespace FL
open PySem PySem.Spec PyProof.Rows L2
section
variable {T : Tx} {X : Cx} {W : WX}
theorem RE.set {w : Wd} {ρ : Env'} {st : L2.St} {x : Xv} {v : V} (e : RE T w ρ st) (i : Nat) (h : RX T w x v) : RE T w (ρ.set i (some x)) (st.set i (some v)) := by
  refine ⟨by simp [e.len], fun j y q => ?_⟩
  by_cases hj : i = j
  · subst hj
    have il : i < ρ.length := by
      have := (List.getElem?_eq_some_iff.mp q).1
      simpa using this
    rw [List.getElem?_set_self il] at q
    cases q
    exact ⟨v, by rw [List.getElem?_set_self (by rw [← e.len]; exact il)], h⟩
  · rw [List.getElem?_set_ne hj] at q ⊢
    exact e.at_ j y q
/-! ### small statements -/
def skipS : FS := fun ρ s => .nx ρ s
def Out.andThen (o : Out) (k : Env' → Sto → Out) : Out := match o with
  | .nx r s => k r s
  | o => o
def seqS (a b : FS) : FS := fun ρ s => (a ρ s).andThen b
theorem pfs_nil : PFSs T X W [] skipS := PSs.imp pss_nil fun E st H ⟨w, ρ, s, e, q, p⟩ => p w st H (.refl _) e q
theorem pfs_cons {st : Stmt} {rest : List Stmt} {a b : FS} (h1 : PFS T X W st a) (h2 : PFSs T X W rest b) : PFSs T X W (st :: rest) (seqS a b) := by
  refine PSs.imp (pss_cons h1 h2) fun E σ H ⟨w, ρ, s, e, q, p⟩ => ⟨w, ρ, s, e, q, ?_⟩
  unfold seqS at p
  revert p
  cases a ρ s with
  | nx r s1 => exact fun p w1 σ1 H1 l e1 r1 => ⟨w1, r, s1, e1, r1, PostS.mono l p⟩
  | rt v s1 => exact fun p => p
  | bk r s1 => exact fun p => p
  | ct r s1 => exact fun p => p
  | exc x r s1 => exact fun p => p
  | stuck => exact fun p => p
theorem pfs_one {st : Stmt} {a : FS} (h1 : PFS T X W st a) : PFSs T X W [st] a := pss_one h1
theorem pfs_pass {pos : Pos} : PFS T X W (.Pass pos) skipS := PS.imp ps_pass fun E st H ⟨w, ρ, s, e, q, p⟩ => p w st H (.refl _) e q
theorem pfs_break {pos : Pos} : PFS T X W (.Break pos) (fun ρ s => .bk ρ s) := PS.imp ps_break fun E st H ⟨w, ρ, s, e, q, p⟩ => p w st H (.refl _) e q
theorem pfs_continue {pos : Pos} : PFS T X W (.Continue pos) (fun ρ s => .ct ρ s) := PS.imp ps_continue fun E st H ⟨w, ρ, s, e, q, p⟩ => p w st H (.refl _) e q
def neverS : FS := fun _ _ => .stuck
theorem pfs_never {st : Stmt} : PFS T X W st neverS := PS.imp ps_never fun E st H ⟨w, ρ, s, e, q, p⟩ => p
def retS (f : FE) : FS := fun ρ s => (f ρ s).bindS ρ fun v s1 => .rt v s1
theorem pfs_ret {e : Expr} {f : FE} {pos : Pos} (h : PF T X W e f) : PFS T X W (.Return (some e) pos) (retS f) :=
  PS.imp (ps_ret h) fun E st H ⟨w, ρ, s, e, q, p⟩ => rdE_mono (postS_bind e q p) fun u H1 ⟨w1, x, s1, l1, e1, x1, r1, p1⟩ => p1 w1 u H1 (.refl _) x1 r1
theorem pfs_retN {pos : Pos} : PFS T X W (.Return none pos) (fun _ s => .rt (.d .non) s) := PS.imp ps_retN fun E st H ⟨w, ρ, s, e, q, p⟩ => p w .non H (.refl _) rX_non q
def exprS (f : FE) : FS := fun ρ s => (f ρ s).bindS ρ fun _ s1 => .nx ρ s1
theorem pfs_expr {e : Expr} {f : FE} {pos : Pos} (h : PF T X W e f) (hs : swapsWith e none pos.line X.env = pure false := by rfl) : PFS T X W (.Expr e pos) (exprS f) :=
  PS.imp (ps_expr h hs) fun E st H ⟨w, ρ, s, e, q, p⟩ => rdE_mono (postS_bind e q p) fun u H1 ⟨w1, x, s1, l1, e1, x1, r1, p1⟩ => p1 w1 st H1 (.refl _) e1 r1
def setS (i : Nat) (f : FE) : FS := fun ρ s => (f ρ s).bindS ρ fun v s1 => .nx (ρ.set i (some v)) s1
theorem pfs_set {i : Nat} {x : Str} {e : Expr} {f : FE} {pos pos' : Pos} (hN : X.N.Nodup) (he : PF T X W e f) (hi : X.N[i]? = some x := by rfl) (hx : Loc X.env.scope x := by first | exact .inl rfl | exact .inr rfl) (hs : swapsWith e (some (.Name x pos')) pos.line X.env = pure false := by rfl)
    (hf : X.fn x = true ∨ X.env.scope.names.lookup x = some .local := by first | exact .inl rfl | exact .inr rfl | assumption) : PFS T X W (.Assign [.Name x pos'] e pos) (setS i f) :=
  PS.imp (ps_set hN hi hx he hs hf) fun E st H ⟨w, ρ, s, e, q, p⟩ => rdE_mono (postS_bind e q p) fun u H1 ⟨w1, x, s1, l1, e1, x1, r1, p1⟩ => p1 w1 _ H1 (.refl _) (e1.set i x1) r1
theorem postS_bindT {w : Wd} {st : L2.St} {ρ : Env'} {s : Sto} {H : Hp} {f : FE} {k : Xv → Sto → Out} {E : Ends} (e : RE T w ρ st) (r : RS T w s H) (p : PostS T W w ((f ρ s).bindS ρ k) E) (hk : ∀ x s1, (∃ b, truth x s1 = some b) ∨ k x s1 = .stuck) :
    rdT T W f st H fun b H1 => ∃ w1 v s1, truth v s1 = some b ∧ Le w w1 ∧ RE T w1 ρ st ∧ RS T w1 s1 H1 ∧ PostS T W w1 (k v s1) E := by
  refine ⟨w, ρ, s, e, r, ?_⟩
  cases h : f ρ s with
  | ok v s1 =>
    rw [h] at p
    rcases hk v s1 with ⟨b, eb⟩ | ek
    · exact ⟨b, eb, fun w1 H1 l y => ⟨w1, v, s1, eb, l, e.mono l, y, PostS.mono l p⟩⟩
    · have p' : PostS T W w (k v s1) E := p
      rw [ek] at p'
      exact p'.elim
  | exc x s1 =>
    rw [h] at p
    exact fun w1 c d H1 l x y => p w1 c d st H1 l x (e.mono l) y
  | stuck =>
    rw [h] at p
    exact p
def ifS (c : FE) (a b : FS) : FS := fun ρ s => (c ρ s).bindS ρ fun x s1 => match truth x s1 with | some true => a ρ s1 | some false => b ρ s1 | none => .stuck
theorem pfs_if {c : Expr} {x y : List Stmt} {f : FE} {a b : FS} {pos : Pos} (hc : PFT T X W c f) (ha : PFSs T X W x a) (hb : PFSs T X W y b) : PFS T X W (.If c x y pos) (ifS f a b) :=
  PS.imp (ps_if hc ha hb) fun E st H ⟨w, ρ, s, e, q, p⟩ => rdT_mono (postS_bindT e q p (fun x s1 => by
      cases h : truth x s1 with
      | some b => exact .inl ⟨_, rfl⟩
      | none => exact .inr rfl)) fun b H1 ⟨w1, x, s1, eb, l1, e1, r1, p1⟩ => by
    rw [eb] at p1
    cases b with
    | true =>
      rw [if_pos rfl]
      exact ⟨w1, ρ, s1, e1, r1, p1⟩
    | false =>
      rw [if_neg Bool.false_ne_true]
      exact ⟨w1, ρ, s1, e1, r1, p1⟩
/-! a, b = e1, e2 with plain local names -/
def par2S (i j : Nat) (g : FA) : FS := fun ρ s => match g ρ s with
  | .ok [x, y] s1 => .nx ((ρ.set i (some x)).set j (some y)) s1
  | .exc e s1 => .exc e ρ s1
  | _ => .stuck
theorem pfs_par2 {i j : Nat} {x y : Str} {a b : Expr} {g : FA} {px py pt pos : Pos} {kt k2 pt2} (hc : X.calm = true) (hN : X.N.Nodup) (ha : PFA T X W [a, b] g) (hi : X.N[i]? = some x := by rfl) (hj : X.N[j]? = some y := by rfl) (hij : i ≠ j := by decide)
    (hx : X.env.scope.names.lookup x = some .local := by rfl) (hy : X.env.scope.names.lookup y = some .local := by rfl) (hw : swappedStores [.Tuple [.Name x px, .Name y py] kt pt] (.Tuple [a, b] k2 pt2) X.env = pure (some [x, y]) := by rfl)
    (hs : swapsWithSole [.Tuple [.Name x px, .Name y py] kt pt] (.Tuple [a, b] k2 pt2) pos.line X.env = pure false := by rfl) : PFS T X W (.Assign [.Tuple [.Name x px, .Name y py] kt pt] (.Tuple [a, b] k2 pt2) pos) (par2S i j g) :=
  PS.imp (ps_par hc hN hi hj hij hx hy ha hw hs) fun E st H ⟨w, ρ, s, e, q, p⟩ => by
    refine ⟨w, ρ, s, e, q, ?_⟩
    unfold par2S at p
    revert p
    cases g ρ s with
    | exc z s1 => exact fun p w1 c d H1 l x y => p w1 c d st H1 l x (e.mono l) y
    | stuck => exact fun p => p
    | ok xs s1 =>
      intro p w1 us H1 l x1 r1
      match xs, p, x1 with
      | [u, v], p, x1 =>
        obtain ⟨a1, b1, e1, q1, q2⟩ := rxs2 x1
        exact ⟨a1, b1, e1, p w1 _ H1 l (((e.mono l).set i q1).set j q2) r1⟩
      | [], p, _ => exact p.elim
      | [_], p, _ => exact p.elim
      | _ :: _ :: _ :: _, p, _ => exact p.elim
def par3S (i j k : Nat) (g : FA) : FS := fun ρ s => match g ρ s with
  | .ok [x, y, z] s1 => .nx (((ρ.set i (some x)).set j (some y)).set k (some z)) s1
  | .exc e s1 => .exc e ρ s1
  | _ => .stuck
theorem pfs_par3 {i j l : Nat} {x y z : Str} {a b c : Expr} {g : FA} {px py pz pt pos : Pos} {kt k2 pt2} (hc : X.calm = true) (hN : X.N.Nodup) (ha : PFA T X W [a, b, c] g) (hi : X.N[i]? = some x := by rfl) (hj : X.N[j]? = some y := by rfl) (hl : X.N[l]? = some z := by rfl) (hij : i ≠ j := by decide) (hil : i ≠ l := by decide) (hjl : j ≠ l := by decide)
    (hx : X.env.scope.names.lookup x = some .local := by rfl) (hy : X.env.scope.names.lookup y = some .local := by rfl) (hz : X.env.scope.names.lookup z = some .local := by rfl) (hw : swappedStores [.Tuple [.Name x px, .Name y py, .Name z pz] kt pt] (.Tuple [a, b, c] k2 pt2) X.env = pure (some [x, y, z]) := by rfl)
    (hs : swapsWithSole [.Tuple [.Name x px, .Name y py, .Name z pz] kt pt] (.Tuple [a, b, c] k2 pt2) pos.line X.env = pure false := by rfl) : PFS T X W (.Assign [.Tuple [.Name x px, .Name y py, .Name z pz] kt pt] (.Tuple [a, b, c] k2 pt2) pos) (par3S i j l g) :=
  PS.imp (ps_par3 hc hN hi hj hl hij hil hjl hx hy hz ha hw hs) fun E st H ⟨w, ρ, s, e, q, p⟩ => by
    refine ⟨w, ρ, s, e, q, ?_⟩
    unfold par3S at p
    revert p
    cases g ρ s with
    | exc z s1 => exact fun p w1 c d H1 l x y => p w1 c d st H1 l x (e.mono l) y
    | stuck => exact fun p => p
    | ok xs s1 =>
      intro p w1 us H1 l x1 r1
      match xs, p, x1 with
      | [u, v, z], p, x1 =>
        obtain ⟨a1, r, e1, q1, q2⟩ := x1
        obtain ⟨b1, c1, e2, q3, q4⟩ := rxs2 q2
        subst e2
        exact ⟨a1, b1, c1, e1, p w1 _ H1 l ((((e.mono l).set i q1).set j q3).set _ q4) r1⟩
      | [], p, _ => exact p.elim
      | [_], p, _ => exact p.elim
      | [_, _], p, _ => exact p.elim
      | _ :: _ :: _ :: _ :: _, p, _ => exact p.elim

/-! ### targets -/
/-- a target: it stores at the slots ix alone -/
def rdG (T : Tx) (asg : Xv → Env' → Option Env') (ix : List Nat) : TG := fun v st H Q => ∃ w ρ s x r1, RX T w x v ∧ RE T w ρ st ∧ RS T w s H ∧ asg x ρ = some r1 ∧
  ∀ w' st' H', Le w w' → RE T w' r1 st' → RS T w' s H' → st'.length = st.length → (∀ j, j ∉ ix → st'[j]? = st[j]?) → Q st' H'
abbrev PFG (T : Tx) (X : Cx) (tg : Expr) (asg : Xv → Env' → Option Env') (ix : List Nat) : Prop := PG X tg (rdG T asg ix)
theorem PG.imp {tg : Expr} {t t' : TG} (h : PG X tg t) (k : ∀ v st H Q, t' v st H Q → t v st H Q) : PG X tg t' := ⟨fun pins s σ H v u Q I r q => h.run pins s σ H v u Q I r (k _ _ _ _ q)⟩
def nameG (i : Nat) : Xv → Env' → Option Env' := fun x ρ => some (ρ.set i (some x))
theorem pfg_name {i : Nat} {x : Str} {pos : Pos} (hN : X.N.Nodup) (hi : X.N[i]? = some x := by rfl) (hx : Loc X.env.scope x := by first | exact .inl rfl | exact .inr rfl) (hf : X.fn x = true ∨ X.env.scope.names.lookup x = some .local := by first | exact .inl rfl | exact .inr rfl | assumption) :
    PFG T X (.Name x pos) (nameG i) [i] := PG.imp (pg_name hN hi hx hf) fun v st H Q ⟨w, ρ, s, x, r1, x1, e1, q1, e, p⟩ => by
  cases e
  exact p w _ H (.refl _) (e1.set i x1) q1 (by simp) fun j hj => List.getElem?_set_ne (by simpa [eq_comm] using hj)
/-- several targets -/
def rdGs (T : Tx) (asg : List D → Env' → Option Env') (ix : List Nat) : TGs := fun vs st H Q => ∃ w ρ s xs r1, Rs T w.G xs vs ∧ RE T w ρ st ∧ RS T w s H ∧ asg xs ρ = some r1 ∧
  ∀ w' st' H', Le w w' → RE T w' r1 st' → RS T w' s H' → st'.length = st.length → (∀ j, j ∉ ix → st'[j]? = st[j]?) → Q st' H'
theorem PGs.imp {tg : List Expr} {t t' : TGs} (h : PGs X tg t) (k : ∀ v st H Q, t' v st H Q → t v st H Q) : PGs X tg t' := ⟨fun pins s σ H v u Q I r q => h.run pins s σ H v u Q I r (k _ _ _ _ q)⟩
def nilG : List D → Env' → Option Env' := fun xs ρ => match xs with | [] => some ρ | _ => none
def consG (a : Xv → Env' → Option Env') (b : List D → Env' → Option Env') : List D → Env' → Option Env' := fun xs ρ => match xs with
  | x :: xs => match a (.d x) ρ with | some r => b xs r | none => none
  | [] => none
theorem pfgs_nil : PGs X [] (rdGs T nilG []) := PGs.imp pgs_nil fun vs st H Q ⟨w, ρ, s, xs, r1, x1, e1, q1, e, p⟩ => by
  unfold nilG at e
  split at e
  · cases e
    unfold Rs at x1
    exact ⟨x1, p w st H (.refl _) e1 q1 rfl fun _ _ => rfl⟩
  · cases e
theorem pfgs_cons {e : Expr} {es : List Expr} {a : Xv → Env' → Option Env'} {b : List D → Env' → Option Env'} {ia ib : List Nat} (h1 : PFG T X e a ia) (h2 : PGs X es (rdGs T b ib)) (hs : (assignEach (e :: es) X.env).map (·.2) = assign e X.env :: (assignEach es X.env).map (·.2) := by rfl) :
    PGs X (e :: es) (rdGs T (consG a b) (ia ++ ib)) := PGs.imp (pgs_cons h1 h2 hs) fun vs st H Q ⟨w, ρ, s, xs, r1, x1, e1, q1, e, p⟩ => by
  unfold consG at e
  split at e
  · rename_i x xs
    split at e
    · rename_i r2 ha
      unfold Rs at x1
      obtain ⟨v, r, f1, f2, f3⟩ := x1
      refine ⟨v, r, f1, w, ρ, s, .d x, r2, f2, e1, q1, ha, fun w1 st1 H1 l1 g1 g2 g3 g4 => ⟨w1, r2, s, xs, r1, Rs.mono l1.g f3, g1, g2, e, fun w2 st2 H2 l2 k1 k2 k3 k4 => p w2 st2 H2 (l1.trans l2) k1 k2 (k3.trans g3) fun j hj => ?_⟩⟩
      rw [List.mem_append, not_or] at hj
      exact (k4 j hj.2).trans (g4 j hj.1)
    · cases e
  · cases e
def tupG (n : Nat) (b : List D → Env' → Option Env') : Xv → Env' → Option Env' := fun x ρ => match x with
  | .d (.tup xs) => if xs.length = n then b xs ρ else none
  | _ => none
theorem pfg_tup {es : List Expr} {k : Nat} {b : List D → Env' → Option Env'} {ix : List Nat} {n : Nat} {pos : Pos} (hK : X.K = T.K) (hc : X.calm = true) (h : PGs X es (rdGs T b ix)) (hn : (assignEach es X.env).length = n := by rfl) (hst : (assignEach es X.env).findIdx? (·.1) = none := by rfl) :
    PFG T X (.Tuple es k pos) (tupG n b) ix := PG.imp (pg_tup hc h hn hst) fun v st H Q ⟨w, ρ, s, x, r1, x1, e1, q1, e, p⟩ => by
  unfold tupG at e
  split at e
  · rename_i xs
    split at e
    · rename_i hl
      obtain ⟨a, vs, f1, f2, f3⟩ := viewT_ok (xs := xs) q1 x1 rfl
      exact ⟨a, vs, f1, by rw [hK]; exact f2, by rw [← f3.length]; exact hl, w, ρ, s, xs, r1, f3, e1, q1, e, p⟩
    · cases e
  · cases e
/-- target = e -/
def asgS (asg : Xv → Env' → Option Env') (f : FE) : FS := fun ρ s => (f ρ s).bindS ρ fun v s1 => match asg v ρ with | some r => .nx r s1 | none => .stuck
theorem pfs_asg {tg e : Expr} {f : FE} {asg : Xv → Env' → Option Env'} {ix : List Nat} {pos : Pos} (he : PF T X W e f) (hg : PFG T X tg asg ix) (hs : swapsWithSole [tg] e pos.line X.env = pure false := by rfl) (hw : swappedStores [tg] e X.env = pure none := by rfl)
    (h1 : (assignEach [tg] X.env).map (·.2) = [assign tg X.env] := by rfl) : PFS T X W (.Assign [tg] e pos) (asgS asg f) :=
  PS.imp (ps_asg he hg hs hw h1) fun E st H ⟨w, ρ, s, e, q, p⟩ => rdE_mono (postS_bind e q p) fun u H1 ⟨w1, x, s1, l1, e1, x1, r1, p1⟩ => by
    split at p1
    · rename_i r2 ha
      exact ⟨w1, ρ, s1, x, r2, x1, e1, r1, ha, fun w2 st2 H2 l2 k1 k2 _ _ => p1 w2 st2 H2 l2 k1 k2⟩
    · exact p1.elim
end
end FL

set_option Elab.async false
set_option linter.all false
set_option maxRecDepth 100000
set_option maxHeartbeats 4000000
namespace FL
open PySem PySem.Spec PyProof.Rows L2
section
variable {T : Tx} {X : Cx} {W : WX}
/-! ### what is walked -/
structure Wk (T : Tx) (G : Hp) (J : It) (xs : List D) : Prop where
  go : ∀ (i : Nat) (x : D) (w : Wd) (s : Sto) (H : Hp), xs[i]? = some x → Same G w.G → RS T w s H → J.go i H ∧ ∀ v H', J.yld i H v H' → ∃ w', Le w w' ∧ RX T w' (.d x) v ∧ RS T w' s H'
  stop : ∀ (w : Wd) (s : Sto) (H : Hp), Same G w.G → RS T w s H → J.stop xs.length H
theorem Wk.mono {G G' : Hp} {J : It} {xs : List D} (h : Same G G') (k : Wk T G J xs) : Wk T G' J xs := ⟨fun i x w s H e g => k.go i x w s H e (h.trans g), fun w s H g => k.stop w s H (h.trans g)⟩
def PostI (T : Tx) (W : WX) (st : L2.St) (w : Wd) (r : Res) (Q : It → Hp → Prop) : Prop := match r with
  | .ok (.d (.lst xs)) s => ∀ w' J H', Le w w' → Wk T w'.G J xs → RS T w' s H' → Q J H'
  | .ok _ _ => False
  | .exc e s => ∀ w' cls d H', Le w w' → RExc T w' e cls d → RS T w' s H' → W cls d st H'
  | .stuck => False
theorem PostI.mono {st : L2.St} {w w' : Wd} {r : Res} {Q : It → Hp → Prop} (h : Le w w') (p : PostI T W st w r Q) : PostI T W st w' r Q := by
  unfold PostI at p ⊢
  split at p
  · exact fun w1 J H' l => p w1 J H' (h.trans l)
  · exact p.elim
  · exact fun w1 c d H' l => p w1 c d H' (h.trans l)
  · exact p.elim
def rdI (T : Tx) (W : WX) (f : FE) : TI := fun st H Q => ∃ w r s, RE T w r st ∧ RS T w s H ∧ PostI T W st w (f r s) Q
abbrev PFI (T : Tx) (X : Cx) (W : WX) (tg e : Expr) (f : FE) : Prop := PI X tg e (rdI T W f)
theorem PI.imp {tg e : Expr} {t t' : TI} (h : PI X tg e t) (k : ∀ st H Q, t' st H Q → t st H Q) : PI X tg e t' := ⟨fun pins s σ H R I q => h.run pins s σ H R I (k _ _ _ q)⟩
/-- a list or a tuple -/
def iSeq (K : PySem.W.Frag) (tl : TE) : TI := fun σ H R => tl σ H fun x H1 => ∃ a, x = .ref a ∧ (((∃ xs, SqL K H1 a xs) ∧ R (Itl K a) H1) ∨ ((∃ xs, SqT K H1 a xs) ∧ R (Itt K a) H1))
theorem pi_seq {tg l : Expr} {tl : TE} (hl : PE X l tl) : PI X tg l (iSeq X.K tl) := ⟨fun pins s σ H R I h => by
  refine thn (hl.run pins s σ H _ I h) fun v s1 ⟨x, H1, I1, r1, a, e, q1⟩ => ?_
  subst e
  have e : v = .ref a := r1
  subst e
  rcases q1 with ⟨⟨xs, hq⟩, q⟩ | ⟨⟨xs, hq⟩, q⟩
  · obtain ⟨its, rv, p, hz⟩ := I1.list hq
    refine wpAny_pyIter_list p.isList ?_
    refine ⟨s1.heap.objs.size, [s1.heap.objs.size], fun i h => h.IsListIter s1.heap.objs.size a i, Itl X.K a, H1, rfl, I1.kept fun b o e => Heap.get?_push_of_some _ e, turn_list a _, ?_, fun b hb => ?_, q⟩
    · exact ⟨_, Heap.get?_push_size s1.1 rfl, rfl, rfl⟩
    · have e : b = s1.heap.objs.size := by simpa using hb
      subst e
      exact I1.fpOk (Nat.le_refl _) (I1.hok.fresh (Nat.le_refl _))
  · obtain ⟨its, rv, p, hz⟩ := I1.tuple hq
    refine wpAny_pyIter_tuple p ?_
    refine ⟨s1.heap.objs.size, [s1.heap.objs.size], fun i h => h.IsTupleIter s1.heap.objs.size a i, Itt X.K a, H1, rfl, I1.kept fun b o e => Heap.get?_push_of_some _ e, turn_tuple a _, ?_, fun b hb => ?_, q⟩
    · exact ⟨_, Heap.get?_push_size s1.1 rfl, rfl, rfl⟩
    · have e : b = s1.heap.objs.size := by simpa using hb
      subst e
      exact I1.fpOk (Nat.le_refl _) (I1.hok.fresh (Nat.le_refl _))⟩
theorem wk_lst {G : Hp} {a : Addr} {vs : List V} {xs : List D} (e : SqL T.K G a vs) (h : Rs T G xs vs) : Wk T G (Itl T.K a) xs := by
  refine ⟨fun i x w s H hi g r => ?_, fun w s H g r => ?_⟩
  · have e' := r.g.seq (g.seq e)
    obtain ⟨v, hv, rv⟩ := h.get hi
    refine ⟨⟨vs, v, e', hv⟩, ?_⟩
    rintro u H' ⟨rfl, k⟩
    have q := k vs e'
    rw [hv] at q
    cases q
    exact ⟨w, .refl _, R.mono g rv, r⟩
  · exact ⟨vs, r.g.seq (g.seq e), Nat.le_of_eq h.length.symm⟩
theorem wk_tup {G : Hp} {a : Addr} {vs : List V} {xs : List D} (e : SqT T.K G a vs) (h : Rs T G xs vs) : Wk T G (Itt T.K a) xs := by
  refine ⟨fun i x w s H hi g r => ?_, fun w s H g r => ?_⟩
  · have e' := sqT_mono r.g (sqT_mono g e)
    obtain ⟨v, hv, rv⟩ := h.get hi
    refine ⟨⟨vs, v, e', hv⟩, ?_⟩
    rintro u H' ⟨rfl, k⟩
    have q := k vs e'
    rw [hv] at q
    cases q
    exact ⟨w, .refl _, R.mono g rv, r⟩
  · exact ⟨vs, sqT_mono r.g (sqT_mono g e), Nat.le_of_eq h.length.symm⟩
def rngD (lo : Int) (n : Nat) : List D := (List.range n).map fun k : Nat => D.int (lo + (k : Int))
theorem wk_rng {G : Hp} (lo : Int) (n : Nat) : Wk T G (Itr lo n) (rngD lo n) := by
  refine ⟨fun i x w s H hi g r => ?_, fun w s H g r => ?_⟩
  · unfold rngD at hi
    rw [List.getElem?_map] at hi
    have il : i < n := by
      by_cases q : i < n
      · exact q
      · rw [List.getElem?_eq_none (by simpa using q)] at hi
        cases hi
    rw [List.getElem?_range il] at hi
    cases hi
    refine ⟨il, ?_⟩
    rintro u H' ⟨rfl, rfl⟩
    exact ⟨w, .refl _, rX_int, r⟩
  · show n ≤ (rngD lo n).length
    unfold rngD
    simp
def iterF (f : FE) : FE := fun ρ s => (f ρ s).bind fun x s1 => match x with
  | .d (.tup xs) => .ok (.d (.lst xs)) s1
  | .d (.lst xs) => .ok (.d (.lst xs)) s1
  | .d (.scr ns) => .ok (.d (.lst (ns.map .int))) s1
  | _ => .stuck
theorem postI_bind {st : L2.St} {w : Wd} {ρ : Env'} {s : Sto} {H : Hp} {f : FE} {k : Xv → Sto → Res} {Q : It → Hp → Prop} (e : RE T w ρ st) (r : RS T w s H) (p : PostI T W st w ((f ρ s).bind k) Q) :
    rdE T W f st H fun u H1 => ∃ w1 v s1, Le w w1 ∧ RE T w1 ρ st ∧ RX T w1 v u ∧ RS T w1 s1 H1 ∧ PostI T W st w1 (k v s1) Q := by
  refine ⟨w, ρ, s, e, r, ?_⟩
  cases h : f ρ s with
  | ok v s1 =>
    rw [h] at p
    exact fun w1 u H1 l x y => ⟨w1, v, s1, l, e.mono l, x, y, PostI.mono l p⟩
  | exc x s1 =>
    rw [h] at p
    exact p
  | stuck =>
    rw [h] at p
    exact p
theorem postI_bindL {st : L2.St} {w : Wd} {ρ : Env'} {s : Sto} {H : Hp} {f : FA} {k : List Xv → Sto → Res} {Q : It → Hp → Prop} (e : RE T w ρ st) (r : RS T w s H) (p : PostI T W st w ((f ρ s).bind k) Q) :
    rdA T W f st H fun u H1 => ∃ w1 v s1, Le w w1 ∧ RE T w1 ρ st ∧ RXs T w1 v u ∧ RS T w1 s1 H1 ∧ PostI T W st w1 (k v s1) Q := by
  refine ⟨w, ρ, s, e, r, ?_⟩
  cases h : f ρ s with
  | ok v s1 =>
    rw [h] at p
    exact fun w1 u H1 l x y => ⟨w1, v, s1, l, e.mono l, x, y, PostI.mono l p⟩
  | exc x s1 =>
    rw [h] at p
    exact p
  | stuck =>
    rw [h] at p
    exact p
theorem pfi_seq {tg e : Expr} {f : FE} (hK : X.K = T.K) (h : PF T X W e f) : PFI T X W tg e (iterF f) := PI.imp (pi_seq h) fun st H Q ⟨w, ρ, s, e, q, p⟩ => rdE_mono (postI_bind e q p) fun u H1 ⟨w1, x, s1, l1, e1, x1, r1, p1⟩ => by
  rw [hK]
  split at p1
  · rename_i xs
    obtain ⟨a, vs, f1, f2, f3⟩ := (show R T w1.G (.tup xs) u from x1 : _)
    exact ⟨a, f1, .inr ⟨⟨vs, sqT_mono r1.g f2⟩, p1 w1 _ H1 (.refl _) (wk_tup f2 f3) r1⟩⟩
  · rename_i xs
    have x1' : R T w1.G (.lst xs) u := x1
    unfold R at x1'
    obtain ⟨a, vs, f1, f2, f3⟩ := x1'
    exact ⟨a, f1, .inl ⟨⟨vs, .of (r1.g _ _ f2)⟩, p1 w1 _ H1 (.refl _) (wk_lst (.of f2) f3) r1⟩⟩
  · rename_i ns
    have x1' : R T w1.G (.scr ns) u := x1
    unfold R at x1'
    obtain ⟨a, f1, f2⟩ := x1'
    exact ⟨a, f1, .inl ⟨⟨_, r1.g.seq f2⟩, p1 w1 _ H1 (.refl _) (wk_lst f2 (rs_ints ns)) r1⟩⟩
  · exact p1.elim
def rng1F (g : FA) : FE := fun ρ s => (g ρ s).bind fun xs s1 => match xs with
  | [.d (.int j)] => if -(2 ^ 62) ≤ j ∧ j < 2 ^ 62 then .ok (.d (.lst (rngD 0 j.toNat))) s1 else .stuck
  | _ => .stuck
def rng2F (g : FA) : FE := fun ρ s => (g ρ s).bind fun xs s1 => match xs with
  | [.d (.int i), .d (.int j)] => if -(2 ^ 62) ≤ i ∧ i < 2 ^ 62 ∧ -(2 ^ 62) ≤ j ∧ j < 2 ^ 62 then .ok (.d (.lst (rngD i (j - i).toNat))) s1 else .stuck
  | _ => .stuck
theorem pfi_range1 {tg a : Expr} {g : FA} {p pos : Pos} (hm : X.mg "range" = none) (ha : PFA T X W [a] g) (hg : Gl X "range" := by rfl) (hs : starEach [a] X.env = [(false, eval a X.env)] := by rfl) : PFI T X W tg (.Call (.Name "range" p) [a] [] pos) (rng1F g) :=
  PI.imp (pi_range1 hg hm ha hs) fun st H Q ⟨w, ρ, s, e, q, p⟩ => rdA_mono (postI_bindL e q p) fun us H1 ⟨w1, xs, s1, l1, e1, x1, r1, p1⟩ => by
    split at p1
    · rename_i j
      split at p1
      · rename_i h
        obtain ⟨v, rfl, x2⟩ := rxs1 x1
        cases X_int x2
        exact ⟨j, rfl, h.1, h.2, p1 w1 _ H1 (.refl _) (wk_rng 0 _) r1⟩
      · exact p1.elim
    · exact p1.elim
theorem pfi_range2 {tg a b : Expr} {g : FA} {p pos : Pos} (hm : X.mg "range" = none) (ha : PFA T X W [a, b] g) (hg : Gl X "range" := by rfl) (hs : starEach [a, b] X.env = [(false, eval a X.env), (false, eval b X.env)] := by rfl) (hs2 : starEach [b] X.env = [(false, eval b X.env)] := by rfl) :
    PFI T X W tg (.Call (.Name "range" p) [a, b] [] pos) (rng2F g) :=
  PI.imp (pi_range2 hg hm ha hs hs2) fun st H Q ⟨w, ρ, s, e, q, p⟩ => rdA_mono (postI_bindL e q p) fun us H1 ⟨w1, xs, s1, l1, e1, x1, r1, p1⟩ => by
    split at p1
    · rename_i i j
      split at p1
      · rename_i h
        obtain ⟨v, u, rfl, x2, x3⟩ := rxs2 x1
        cases X_int x2
        cases X_int x3
        exact ⟨i, j, rfl, h, p1 w1 _ H1 (.refl _) (wk_rng i _) r1⟩
      · exact p1.elim
    · exact p1.elim

/-! ### for -/
def forF (asg : Xv → Env' → Option Env') (b : FS) : List D → Env' → Sto → Out
  | [], ρ, s => .nx ρ s
  | x :: xs, ρ, s => match asg (.d x) ρ with
    | none => .stuck
    | some r => match b r s with
      | .nx r1 s1 => forF asg b xs r1 s1
      | .ct r1 s1 => forF asg b xs r1 s1
      | .bk r1 s1 => .nx r1 s1
      | o => o
def forS (asg : Xv → Env' → Option Env') (f : FE) (b : FS) : FS := fun ρ s => (f ρ s).bindS ρ fun x s1 => match x with
  | .d (.lst xs) => forF asg b xs ρ s1
  | _ => .stuck
theorem pfs_for {tg iter : Expr} {body : List Stmt} {f : FE} {b : FS} {asg : Xv → Env' → Option Env'} {ix : List Nat} {pos : Pos} (hp : PassesOwn (model X.prog X.w) X.A X.env X.xe) (hc : X.calm = true) (hi : PFI T X W tg iter f) (hg : PFG T X tg asg ix) (hb : PFSs T X W body b)
    (hf : ∀ x, foldedSetIterable iter X.env x = pure x := by exact fun _ => rfl) : PFS T X W (.For tg iter body [] pos) (forS asg f b) :=
  PS.imp (ps_for hp hc hi hg hb hf) fun E st H ⟨w, ρ, s, e, q, p⟩ => by
    refine ⟨w, ρ, s, e, q, ?_⟩
    unfold forS at p
    revert p
    cases f ρ s with
    | exc x s1 => exact fun p w1 c d H1 l x y => p w1 c d st H1 l x (e.mono l) y
    | stuck => exact fun p => p
    | ok v s1 =>
      intro p
      unfold Res.bindS at p
      dsimp only at p
      split at p
      · rename_i xs
        intro w1 J H1 l k r1
        refine ⟨fun i m σ H' => ∃ w2 ρ2 s2, RE T w2 ρ2 σ ∧ RS T w2 s2 H' ∧ Same w1.G w2.G ∧ i ≤ xs.length ∧ m = xs.length - i ∧ PostS T W w2 (forF asg b (xs.drop i) ρ2 s2) E,
          ⟨xs.length, w1, ρ, s1, e.mono l, r1, .refl _, Nat.zero_le _, rfl, PostS.mono l p⟩, ?_⟩
        rintro i m σ H' ⟨w2, ρ2, s2, e2, r2, g2, il, rfl, p2⟩
        rcases Nat.lt_or_ge i xs.length with hi | hi
        · refine .inr ?_
          have hx : xs[i]? = some xs[i] := List.getElem?_eq_getElem hi
          obtain ⟨hgo, hy⟩ := k.go i _ w2 s2 H' hx g2 r2
          refine ⟨hgo, fun σ' H'' => ∃ w3 ρ3 s3, RE T w3 ρ3 σ' ∧ RS T w3 s3 H'' ∧ Same w1.G w3.G ∧ PostS T W w3 (forF asg b (xs.drop (i + 1)) ρ3 s3) E, ?_, ?_⟩
          · rintro σ' H'' ⟨w3, ρ3, s3, e3, r3, g3, p3⟩
            exact ⟨xs.length - (i + 1), by omega, w3, ρ3, s3, e3, r3, g3, hi, rfl, p3⟩
          · intro v H'' hv
            obtain ⟨w3, l3, x3, r3⟩ := hy v H'' hv
            rw [List.drop_eq_getElem_cons hi] at p2
            unfold forF at p2
            split at p2
            · exact p2.elim
            · rename_i r ha
              refine ⟨w3, ρ2, s2, _, r, x3, e2.mono l3, r3, ha, fun w4 st4 H4 l4 e4 r4 _ _ => ?_⟩
              refine ⟨w4, r, s2, e4, r4, ?_⟩
              have p4 := PostS.mono (l3.trans l4) p2
              have g4 : Same w1.G w4.G := g2.trans (l3.trans l4).g
              revert p4
              cases b r s2 with
              | nx r5 s5 => exact fun p4 w5 st5 H5 l5 e5 r5 => ⟨w5, _, _, e5, r5, g4.trans l5.g, PostS.mono l5 p4⟩
              | ct r5 s5 => exact fun p4 w5 st5 H5 l5 e5 r5 => ⟨w5, _, _, e5, r5, g4.trans l5.g, PostS.mono l5 p4⟩
              | bk r5 s5 => exact fun p4 => p4
              | rt v5 s5 => exact fun p4 => p4
              | exc x5 r5 s5 => exact fun p4 => p4
              | stuck => exact fun p4 => p4
        · have hi' : i = xs.length := by omega
          subst hi'
          rw [List.drop_length] at p2
          exact .inl ⟨k.stop w2 s2 H' g2 r2, p2 w2 σ H' (.refl _) e2 r2⟩
      · exact p.elim

/-! ### while -/
def whileN (c : FE) (b : FS) : Nat → Env' → Sto → Out
  | 0, _, _ => .stuck
  | n + 1, ρ, s => (c ρ s).bindS ρ fun x s1 => match truth x s1 with
    | some true => match b ρ s1 with
      | .nx r1 s2 => whileN c b n r1 s2
      | .ct r1 s2 => whileN c b n r1 s2
      | .bk r1 s2 => .nx r1 s2
      | o => o
    | some false => .nx ρ s1
    | none => .stuck
def whileS (μ : Env' → Sto → Nat) (c : FE) (b : FS) : FS := fun ρ s => whileN c b (μ ρ s) ρ s
theorem pfs_while {c : Expr} {body : List Stmt} {f : FE} {b : FS} {pos : Pos} (μ : Env' → Sto → Nat) (hp : PassesOwn (model X.prog X.w) X.A X.env X.xe) (hc : PFT T X W c f) (hb : PFSs T X W body b) : PFS T X W (.While c body [] pos) (whileS μ f b) :=
  PS.imp (ps_while hp hc hb) fun E st H ⟨w, ρ, s, e, q, p⟩ => by
    refine ⟨fun m σ H' => ∃ w2 ρ2 s2, RE T w2 ρ2 σ ∧ RS T w2 s2 H' ∧ PostS T W w2 (whileN f b m ρ2 s2) E, ⟨μ ρ s, w, ρ, s, e, q, p⟩, ?_⟩
    rintro m σ H' ⟨w2, ρ2, s2, e2, r2, p2⟩
    cases m with
    | zero => exact p2.elim
    | succ n =>
      refine rdT_mono (postS_bindT e2 r2 p2 (fun x s1 => by
        cases h : truth x s1 with
        | some b => exact .inl ⟨_, rfl⟩
        | none => exact .inr rfl)) fun t H1 ⟨w3, x, s3, et, l3, e3, r3, p3⟩ => ?_
      rw [et] at p3
      cases t with
      | true =>
        rw [if_pos rfl]
        refine ⟨fun σ' H'' => ∃ w4 ρ4 s4, RE T w4 ρ4 σ' ∧ RS T w4 s4 H'' ∧ PostS T W w4 (whileN f b n ρ4 s4) E, fun σ' H'' h => ⟨n, Nat.lt_succ_self _, h⟩, w3, ρ2, s3, e3, r3, ?_⟩
        dsimp only at p3
        revert p3
        cases b ρ2 s3 with
        | nx r5 s5 => exact fun p4 w5 st5 H5 l5 e5 r5 => ⟨w5, _, _, e5, r5, PostS.mono l5 p4⟩
        | ct r5 s5 => exact fun p4 w5 st5 H5 l5 e5 r5 => ⟨w5, _, _, e5, r5, PostS.mono l5 p4⟩
        | bk r5 s5 => exact fun p4 => p4
        | rt v5 s5 => exact fun p4 => p4
        | exc x5 r5 s5 => exact fun p4 => p4
        | stuck => exact fun p4 => p4
      | false =>
        rw [if_neg Bool.false_ne_true]
        exact p3 w3 σ H1 (.refl _) e3 r3
end
end FL

set_option Elab.async false
set_option linter.all false
set_option maxRecDepth 100000
set_option maxHeartbeats 4000000
namespace FL
open PySem PySem.Spec PyProof.Rows L2
section
variable {T : Tx} {X : Cx} {W : WX}
/-! ### list comprehensions -/
def wipeF (ρ : Env') : List Nat → Env'
  | [] => ρ
  | v :: vs => (wipeF ρ vs).set v none
theorem RE.wipe {w : Wd} {ρ : Env'} {st : L2.St} (e : RE T w ρ st) : ∀ vs : List Nat, RE T w (wipeF ρ vs) (L2.wipe st vs)
  | [] => e
  | v :: vs => by
    have k := RE.wipe e vs
    show RE T w ((wipeF ρ vs).set v none) ((L2.wipe st vs).set v none)
    refine ⟨by simp [k.len], fun j y q => ?_⟩
    by_cases hj : v = j
    · subst hj
      have il : v < (wipeF ρ vs).length := by
        have := (List.getElem?_eq_some_iff.mp q).1
        simpa using this
      rw [List.getElem?_set_self il] at q
      cases q
    · rw [List.getElem?_set_ne hj] at q ⊢
      exact k.at_ j y q
theorem wipe_get {st : L2.St} {vs : List Nat} {j : Nat} (h : j ∉ vs) : (L2.wipe st vs)[j]? = st[j]? := by
  induction vs with
  | nil => rfl
  | cons v vs ih =>
    rw [List.mem_cons, not_or] at h
    show ((L2.wipe st vs).set v none)[j]? = _
    rw [List.getElem?_set_ne (fun z => h.1 z.symm)]
    exact ih h.2
theorem wipe_len {st : L2.St} {vs : List Nat} : (L2.wipe st vs).length = st.length := by
  induction vs with
  | nil => rfl
  | cons v vs ih =>
    show ((L2.wipe st vs).set v none).length = _
    rw [List.length_set, ih]
theorem wipe_at {st : L2.St} {vs : List Nat} {j : Nat} (h : j ∈ vs) (hj : j < st.length) : (L2.wipe st vs)[j]? = some none := by
  induction vs with
  | nil => cases h
  | cons v vs ih =>
    show ((L2.wipe st vs).set v none)[j]? = _
    by_cases hv : v = j
    · subst hv
      rw [List.getElem?_set_self (by rw [wipe_len]; exact hj)]
    · rw [List.getElem?_set_ne hv]
      rcases List.mem_cons.mp h with e | e
      · exact absurd e.symm hv
      · exact ih e
theorem wipe_eq {σ σ2 : L2.St} {vs ix : List Nat} (hl : σ2.length = σ.length) (h : ∀ j, j ∉ ix → σ2[j]? = (L2.wipe σ vs)[j]?) (hix : ∀ j ∈ ix, j ∈ vs) : L2.wipe σ2 vs = L2.wipe σ vs := by
  apply List.ext_getElem?
  intro j
  by_cases hj : j ∈ vs
  · by_cases q : j < σ.length
    · rw [wipe_at hj q, wipe_at hj (by rw [hl]; exact q)]
    · rw [List.getElem?_eq_none (by rw [wipe_len, hl]; omega), List.getElem?_eq_none (by rw [wipe_len]; omega)]
  · rw [wipe_get hj, h j (fun z => hj (hix j z)), wipe_get hj]
/-- the list that is being made is held -/
def hz (w : Wd) (D : Addr) (acc : List V) : Wd := { w with Z := upd w.Z D (.lst acc) }
def del (H : Hp) (D : Addr) : Hp := fun b => if b = D then none else H b
theorem upd_del {H : Hp} {D : Addr} {o : HO} : upd (del H D) D o = upd H D o := by
  funext b
  by_cases hb : b = D
  · subst hb
    rw [upd_same, upd_same]
  · rw [upd_ne hb, upd_ne hb]
    exact if_neg hb
theorem rs_hold {w : Wd} {s : Sto} {H : Hp} {D : Addr} {acc : List V} (r : RS T w s H) (h : H D = none) : RS T (hz w D acc) s (upd H D (.lst acc)) := by
  have gd : w.G D = none := r.g.free h
  refine ⟨fun a o e => ?_, fun a o e => ?_, fun a o e => ?_, r.len, fun i o a e1 e2 e3 => ?_, r.inj⟩
  · rw [upd_ne (ne_of_none (r.g _ _ e) h)]
    exact r.g _ _ e
  · by_cases ha : a = D
    · subst ha
      have e' : upd w.Z a (.lst acc) a = some o := e
      rw [upd_same] at e' ⊢
      exact e'
    · have e' : upd w.Z D (.lst acc) a = some o := e
      rw [upd_ne ha] at e' ⊢
      exact r.z _ _ e'
  · by_cases ha : a = D
    · subst ha
      exact gd
    · have e' : upd w.Z D (.lst acc) a = some o := e
      rw [upd_ne ha] at e'
      exact r.gz _ _ e'
  · obtain ⟨ho, h1, h2, h3, h4⟩ := r.live i o a e1 e2 e3
    have ha : a ≠ D := ne_of_none h1 h
    exact ⟨ho, by rw [upd_ne ha]; exact h1, h2, h3, by show upd w.Z D (.lst acc) a = none; rw [upd_ne ha]; exact h4⟩
theorem rs_unhold {w : Wd} {s : Sto} {H : Hp} {D : Addr} {acc : List V} (r : RS T (hz w D acc) s H) (h : w.Z D = none) : RS T w s (del H D) := by
  have zd : (hz w D acc).Z D = some (.lst acc) := upd_same
  have gd : w.G D = none := r.gz _ _ zd
  refine ⟨fun a o e => ?_, fun a o e => ?_, fun a o e => ?_, r.len, fun i o a e1 e2 e3 => ?_, r.inj⟩
  · have ha : a ≠ D := ne_of_none e gd
    show (if a = D then none else H a) = _
    rw [if_neg ha]
    exact r.g _ _ e
  · have ha : a ≠ D := ne_of_none e h
    show (if a = D then none else H a) = _
    rw [if_neg ha]
    exact r.z _ _ (by show upd w.Z D (.lst acc) a = _; rw [upd_ne ha]; exact e)
  · have ha : a ≠ D := ne_of_none e h
    exact r.gz a o (by show upd w.Z D (.lst acc) a = _; rw [upd_ne ha]; exact e)
  · obtain ⟨ho, h1, h2, h3, h4⟩ := r.live i o a e1 e2 e3
    have ha : a ≠ D := fun z => by
      subst z
      rw [zd] at h4
      cases h4
    refine ⟨ho, ?_, h2, h3, ?_⟩
    · show (if a = D then none else H a) = _
      rw [if_neg ha]
      exact h1
    · have h4' : upd w.Z D (.lst acc) a = none := h4
      rw [upd_ne ha] at h4'
      exact h4'
theorem hz_at {w : Wd} {s : Sto} {H : Hp} {D : Addr} {acc : List V} (r : RS T (hz w D acc) s H) : H D = some (.lst acc) := r.z _ _ upd_same
theorem upd_del_at {H : Hp} {D : Addr} {o : HO} (h : H D = some o) : upd (del H D) D o = H := by
  rw [upd_del]
  funext b
  by_cases hb : b = D
  · subst hb
    rw [upd_same, h]
  · rw [upd_ne hb]
theorem del_at {H : Hp} {D : Addr} : del H D D = none := if_pos rfl
theorem RX.hz {w : Wd} {D : Addr} {acc : List V} {x : Xv} {v : V} (h : RX T w x v) : RX T (hz w D acc) x v := by
  cases x with
  | d x => exact h
  | ref i => exact h
theorem RE.hz {w : Wd} {D : Addr} {acc : List V} {ρ : Env'} {st : L2.St} (h : RE T w ρ st) : RE T (FL.hz w D acc) ρ st := ⟨h.len, fun i v e => by
  obtain ⟨u, k1, k2⟩ := h.at_ i v e
  exact ⟨u, k1, RX.hz k2⟩⟩
def compN (asg : Xv → Env' → Option Env') (t f : FE) (ρ : Env') : List D → Sto → Option (List D × Sto)
  | [], s => some ([], s)
  | x :: xs, s => match asg (.d x) ρ with
    | none => none
    | some r => match t r s with
      | .ok b s1 => match truth b s1 with
        | some true => match f r s1 with
          | .ok (.d y) s2 => match compN asg t f ρ xs s2 with
            | some (ys, s3) => some (y :: ys, s3)
            | none => none
          | _ => none
        | some false => compN asg t f ρ xs s1
        | none => none
      | _ => none
def finL (m : Bool) (acc : List D) : Option (List D × Sto) → Res
  | some (ys, s) => mkL m (acc ++ ys) s
  | none => .stuck
def lcF (m : Bool) (own : List Nat) (asg : Xv → Env' → Option Env') (f t g : FE) : FE := fun ρ s => (f ρ s).bind fun x s1 => match x with
  | .d (.lst xs) => if xs.length ≤ 1000000 then finL m [] (compN asg t g (wipeF ρ own) xs s1) else .stuck
  | _ => .stuck
abbrev W0 : WX := fun _ _ _ _ => False
abbrev PFTs (T : Tx) (X : Cx) (W : WX) (es : List Expr) (f : FE) : Prop := PTs X es (rdT T W f)
def yesF : FE := litF (.bl true)
theorem pts_yes : PFTs T X W [] yesF := ⟨fun pins s σ H Q I h => pts_nil.run pins s σ H Q I (by
  obtain ⟨w, ρ, s0, e, r, b, eb, k⟩ := h
  cases eb
  exact k w H (.refl _) r)⟩
theorem pts_1 {c : Expr} {f : FE} (h : PFT T X W c f) : PFTs T X W [c] f := pts_one h
theorem lc_ok {st : L2.St} {ρ : Env'} {f : FE} {asg : Xv → Env' → Option Env'} {t g : FE} {H : Hp} {Q : VK} {own : List Nat} {ix : List Nat} {m : Bool} (hix : ∀ j ∈ ix, j ∈ own)
    (w : Wd) (s : Sto) (e : RE T w ρ st) (q : RS T w s H) (p : PostE T W st w (lcF m own asg f t g ρ s) Q) : tLc (rdI T W f) (rdG T asg ix) (rdT T W0 t) (rdE T W0 g) own st H Q := by
  refine ⟨w, ρ, s, e, q, ?_⟩
  unfold lcF at p
  revert p
  cases f ρ s with
  | exc x s1 => exact fun p => p
  | stuck => exact fun p => p
  | ok v s1 =>
    intro p
    unfold Res.bind at p
    dsimp only at p
    split at p
    · rename_i xs
      split at p
      · rename_i hxl
        intro w1 J H1 l k r1 D hD
        have zD : w1.Z D = none := r1.z.free hD
        have e1 : RE T w1 ρ st := e.mono l
        refine ⟨fun i m1 H' => ∃ w2 s2 accD acc, Le w1 w2 ∧ RS T (hz w2 D acc) s2 H' ∧ Rs T w2.G accD acc ∧ accD.length ≤ i ∧ i ≤ xs.length ∧ m1 = xs.length - i ∧ PostE T W st w2 (finL m accD (compN asg t g (wipeF ρ own) (xs.drop i) s2)) Q,
          ⟨xs.length, w1, s1, [], [], .refl _, rs_hold r1 hD, by unfold Rs; rfl, Nat.zero_le _, Nat.zero_le _, rfl, PostE.mono l p⟩, ?_⟩
        rintro i m1 H' ⟨w2, s2, accD, acc, l2, r2, ra, hal, il, rfl, p2⟩
        have zD2 : w2.Z D = none := by rw [l2.z]; exact zD
        rcases Nat.lt_or_ge i xs.length with hi | hi
        · refine .inr ?_
          have hx : xs[i]? = some xs[i] := List.getElem?_eq_getElem hi
          obtain ⟨hgo, hy⟩ := k.go i _ (hz w2 D acc) s2 H' hx l2.g r2
          refine ⟨hgo, fun H'' => ∃ w3 s3 accD3 acc3, Le w1 w3 ∧ RS T (hz w3 D acc3) s3 H'' ∧ Rs T w3.G accD3 acc3 ∧ accD3.length ≤ i + 1 ∧ PostE T W st w3 (finL m accD3 (compN asg t g (wipeF ρ own) (xs.drop (i + 1)) s3)) Q, ?_, ?_⟩
          · rintro H'' ⟨w3, s3, accD3, acc3, l3, r3, ra3, hal3, p3⟩
            exact ⟨xs.length - (i + 1), by omega, w3, s3, accD3, acc3, l3, r3, ra3, hal3, hi, rfl, p3⟩
          · intro v H'' hv
            obtain ⟨w3, l3, x3, r3⟩ := hy v H'' hv
            rw [List.drop_eq_getElem_cons hi] at p2
            unfold compN at p2
            split at p2
            · exact p2.elim
            · rename_i r hasg
              refine ⟨w3, _, s2, _, r, x3, ((RE.hz (e1.mono l2)).mono l3).wipe own, r3, hasg, fun w4 st4 H4 l4 e4 r4 hl4 hf4 => ⟨wipe_eq (by rw [hl4, wipe_len]) hf4 hix, w4, r, s2, e4, r4, ?_⟩⟩
              split at p2
              · rename_i b s5 ht
                rw [ht]
                split at p2
                · rename_i htr
                  refine ⟨true, htr, fun w5 H5 l5 r5 => ?_⟩
                  dsimp only
                  rw [if_pos rfl]
                  refine ⟨w5, r, s5, e4.mono l5, r5, ?_⟩
                  split at p2
                  · rename_i y s6 hg
                    rw [hg]
                    intro w6 u H6 l6 x6 r6
                    have l26 : Le (hz w2 D acc) w6 := (l3.trans l4).trans (l5.trans l6)
                    have l7 : Le w2 { w6 with Z := w2.Z } := ⟨l26.g, rfl, l26.io⟩
                    have ew : hz { w6 with Z := w2.Z } D acc = w6 := by
                      have e6 : w6.Z = upd w2.Z D (.lst acc) := l26.z
                      unfold hz
                      cases w6
                      dsimp only at e6 ⊢
                      rw [e6]
                    have r7 : RS T (hz { w6 with Z := w2.Z } D acc) s6 H6 := by rw [ew]; exact r6
                    refine ⟨acc, hz_at r7, ?_, { w6 with Z := w2.Z }, s6, accD ++ [y], acc ++ [u], l2.trans l7, ?_, ?_, ?_, ?_⟩
                    · rw [← ra.length]
                      have : sizeLine = 16777216 := sizeLine_eq
                      omega
                    · have k7 := rs_hold (acc := acc ++ [u]) (rs_unhold r7 zD2) del_at
                      rw [upd_del] at k7
                      exact k7
                    · exact (Rs.mono l7.g ra).append (.one x6)
                    · rw [List.length_append, List.length_singleton]
                      omega
                    · refine PostE.mono l7 ?_
                      revert p2
                      cases compN asg t g (wipeF ρ own) (xs.drop (i + 1)) s6 with
                      | none => exact fun p => p
                      | some z =>
                        obtain ⟨ys, s8⟩ := z
                        intro p2
                        show PostE T W st w2 (mkL m ((accD ++ [y]) ++ ys) s8) Q
                        rw [List.append_assoc]
                        exact p2
                  · exact p2.elim
                · rename_i htr
                  refine ⟨false, htr, fun w5 H5 l5 r5 => ?_⟩
                  dsimp only
                  rw [if_neg Bool.false_ne_true]
                  have l26 : Le (hz w2 D acc) w5 := (l3.trans l4).trans l5
                  have l7 : Le w2 { w5 with Z := w2.Z } := ⟨l26.g, rfl, l26.io⟩
                  have ew : hz { w5 with Z := w2.Z } D acc = w5 := by
                    have e6 : w5.Z = upd w2.Z D (.lst acc) := l26.z
                    unfold hz
                    cases w5
                    dsimp only at e6 ⊢
                    rw [e6]
                  exact ⟨{ w5 with Z := w2.Z }, s5, accD, acc, l2.trans l7, by rw [ew]; exact r5, Rs.mono l7.g ra, by omega, PostE.mono l7 p2⟩
                · exact p2.elim
              · exact p2.elim
        · have hi' : i = xs.length := by omega
          subst hi'
          rw [List.drop_length] at p2
          refine .inl ⟨k.stop (hz w2 D acc) s2 H' l2.g r2, ?_⟩
          have p3 : PostE T W st w2 (mkL m (accD ++ []) s2) Q := p2
          rw [List.append_nil] at p3
          have k3 := mkL_ok p3 (rs_unhold r2 zD2) ra D del_at
          rw [upd_del_at (hz_at r2)] at k3
          exact k3
      · exact p.elim
    · exact p.elim
theorem pf_lc {elt tg iter : Expr} {ifs : List Expr} {scope : Scope} {own : List (Str × Nat)} {pos : Pos} {f t g : FE} {asg : Xv → Env' → Option Env'} {ix : List Nat} (m : Bool) (hc : X.calm = true) (hN : X.N.Nodup) (hi : PFI T X W tg iter f) (ok : BlkOk X.N X.env.scope scope own)
    (hg : ∀ (s : Shared) (H : Hp) (C : Addr) (cl : List (Str × Addr)) (fp : List Addr), PFG T (X.blk s H scope (compEnvC scope cl C X.env) fp) tg asg ix)
    (ht : ∀ (s : Shared) (H : Hp) (C : Addr) (cl : List (Str × Addr)) (fp : List Addr), PFTs T (X.blk s H scope (compEnvC scope cl C X.env) fp) W0 ifs t)
    (he : ∀ (s : Shared) (H : Hp) (C : Addr) (cl : List (Str × Addr)) (fp : List Addr), PF T (X.blk s H scope (compEnvC scope cl C X.env) fp) W0 elt g)
    (hix : ∀ j ∈ ix, j ∈ own.map (·.2) := by decide) (hf : ∀ x, foldedSetIterable iter X.env x = pure x := by exact fun _ => rfl) :
    PF T X W (.ListComp elt [⟨tg, iter, ifs, 0⟩] scope pos) (lcF m (own.map (·.2)) asg f t g) :=
  PE.imp (pe_lc hc hN hi ok hg ht he hf) fun st H Q ⟨w, ρ, s, e, q, p⟩ => lc_ok hix w s e q p
theorem pfs_setLc {i : Nat} {y : Str} {py : Pos} {elt tg iter : Expr} {ifs : List Expr} {scope : Scope} {own : List (Str × Nat)} {pos spos : Pos} {f t g : FE} {asg : Xv → Env' → Option Env'} {ix : List Nat} (m : Bool) (hc : X.calm = true) (hN : X.N.Nodup) (hi : PFI T X W tg iter f) (ok : BlkOk X.N X.env.scope scope own)
    (hg : ∀ (s : Shared) (H : Hp) (C : Addr) (cl : List (Str × Addr)) (fp : List Addr), PFG T (X.blk s H scope (compEnvC scope cl C X.env) fp) tg asg ix)
    (ht : ∀ (s : Shared) (H : Hp) (C : Addr) (cl : List (Str × Addr)) (fp : List Addr), PFTs T (X.blk s H scope (compEnvC scope cl C X.env) fp) W0 ifs t)
    (he : ∀ (s : Shared) (H : Hp) (C : Addr) (cl : List (Str × Addr)) (fp : List Addr), PF T (X.blk s H scope (compEnvC scope cl C X.env) fp) W0 elt g)
    (hsw : swapsWith (.ListComp elt [⟨tg, iter, ifs, 0⟩] scope pos) (some (.Name y py)) spos.line X.env = pure true)
    (hy : X.N[i]? = some y := by rfl) (hyl : X.env.scope.names.lookup y = some .local := by rfl)
    (hix : ∀ j ∈ ix, j ∈ own.map (·.2) := by decide) (hf : ∀ x, foldedSetIterable iter X.env x = pure x := by exact fun _ => rfl) :
    PFS T X W (.Assign [.Name y py] (.ListComp elt [⟨tg, iter, ifs, 0⟩] scope pos) spos) (setS i (lcF m (own.map (·.2)) asg f t g)) :=
  PS.imp (ps_setLc hc hN hy hyl hsw hi ok hg ht he hf) fun E st H ⟨w, ρ, s, e, q, p⟩ => by
    refine lc_ok (m := m) hix w s e q ?_
    unfold setS at p
    revert p
    cases lcF m (own.map (·.2)) asg f t g ρ s with
    | exc x s1 => exact fun p w1 c d H1 l x y => p w1 c d st H1 l x (e.mono l) y
    | stuck => exact fun p => p
    | ok v s1 => exact fun p w1 u H1 l x y => p w1 _ H1 l ((e.mono l).set i x) y
end
end FL

set_option Elab.async false
set_option linter.all false
set_option maxRecDepth 100000
set_option maxHeartbeats 4000000
namespace FL
open PySem PySem.Spec PyProof.Rows L2
/-! ### zip(.., strict=True) -/
def ItK (k : Bool) (h : Heap) (a l : Addr) (i : Nat) : Prop := match k with | true => h.IsListIter a l i | false => h.IsTupleIter a l i
def SqK (k : Bool) (h : Heap) (a : Addr) (xs : Array Value) : Prop := match k with | true => h.IsList a xs | false => h.IsTuple a xs
@[reducible] def IsZs (h : Heap) (z TI TO : Addr) (f0 : Value) : Prop := h.get? z = some ⟨.type "zip", none, .fields #[f0, .bool false, .bool true, .ref TI, .ref TO], #[]⟩
theorem ItK.ext {k : Bool} {h h' : Heap} {a b l : Addr} {i : Nat} (e : ItK k h a l i) (q : Heap.ExtBut b h h') (n : a ≠ b) : ItK k h' a l i := by
  cases k with
  | true => exact Heap.IsListIter.extBut e q n
  | false => exact Heap.IsTupleIter.extBut e q n
theorem SqK.ext {k : Bool} {h h' : Heap} {a b : Addr} {xs : Array Value} (e : SqK k h a xs) (q : Heap.ExtBut b h h') (n : a ≠ b) : SqK k h' a xs := by
  cases k with
  | true => exact Heap.IsList.extBut e q n
  | false => exact Heap.IsTuple.extBut e q n
section
variable {prog : Program} {w : World} {A : Around} {E : Value → Shared → Prop} {s : Shared}
theorem nx_item {k : Bool} {it l : Addr} {i : Nat} {xs : Array Value} {x : Value} {Q : Option Value → Shared → Prop} (h1 : ItK k s.heap it l i) (h2 : SqK k s.heap l xs) (hx : xs[i]? = some x)
    (hq : ∀ h' : Heap, ItK k h' it l (i + 1) → Heap.SameBut it s.heap h' → Q (some x) { heap := h', gens := s.gens, drawn := s.drawn, toks := s.toks, os := s.os }) : wpAny (model prog w) A (Builtin.SmallTypes.nextOrEnd (.ref it)) Q E s := by
  unfold Builtin.SmallTypes.nextOrEnd
  refine wpAny_bind (wpAny_attempt ?_)
  cases k with
  | true => exact wpAny_nextOf_list_item h1 h2 hx fun h' a b => wpAny_pure (hq h' a b)
  | false => exact RZ.nextOf_tuple_item h1 h2 hx fun h' a b => wpAny_pure (hq h' a b)
theorem nx_end {k : Bool} {it l : Addr} {i : Nat} {xs : Array Value} {Q : Option Value → Shared → Prop} (hh : A.handled = none) (h1 : ItK k s.heap it l i) (h2 : SqK k s.heap l xs) (hx : xs[i]? = none)
    (hq : ∀ h' : Heap, Heap.ExtBut it s.heap h' → Q none { heap := h', gens := s.gens, drawn := s.drawn, toks := s.toks, os := s.os }) : wpAny (model prog w) A (Builtin.SmallTypes.nextOrEnd (.ref it)) Q E s := by
  unfold Builtin.SmallTypes.nextOrEnd
  refine wpAny_bind (wpAny_attempt ?_)
  cases k with
  | true => exact wpAny_nextOf_list_end hh h1 h2 hx fun h' e a ⟨o, ho, hc⟩ => wpAny_bind (wpAny_isInstance ⟨o, ho, hc⟩ isSubtype_stop (wpAny_pure (hq h' a)))
  | false => exact RZ.nextOf_tuple_end hh h1 h2 hx fun h' e a ⟨o, ho, hc⟩ => wpAny_bind (wpAny_isInstance ⟨o, ho, hc⟩ isSubtype_stop (wpAny_pure (hq h' a)))
theorem stop_it {α : Type} {Q : α → Shared → Prop} (hh : A.handled = none)
    (hE : ∀ (h' : Heap) (e : Addr), (∀ (c : Addr) (o : Obj), s.heap.get? c = some o → h'.get? c = some o) → (∃ o, h'.get? e = some o ∧ o.cls = Value.type "StopIteration") → E (.ref e) { heap := h', gens := s.gens, drawn := s.drawn, toks := s.toks, os := s.os }) : wpAny (model prog w) A (Builtin.SmallTypes.stopIteration : Sem α) Q E s := by
  unfold Builtin.SmallTypes.stopIteration
  refine wpAny_bind ?_
  unfold newExc
  refine wpAny_bind (wpAny_newObj_type ?_)
  refine wpAny_bind (wpAny_of_eq (Eq.refl (firstArgMember (Value.type "StopIteration") [])) (wpAny_newObj_type ?_))
  unfold raiseNew
  refine wpAny_bind (wpAny_handled ?_)
  rw [hh]
  refine wpAny_throw (hE _ _ (fun c o q => Heap.get?_push_of_some _ (Heap.get?_push_of_some _ q)) ⟨_, Heap.get?_push_size _ rfl, rfl⟩)
theorem zs_next_item {ka kb : Bool} {z TI TO i1 i2 l1 l2 : Addr} {k1 k2 : Nat} {xs ys : Array Value} {x y a b : Value} {Q : Value → Shared → Prop} (D : ZipApart z TI TO i1 i2 l1 l2) (hz : IsZs s.heap z TI TO .none) (hTI : IsPair s.heap TI (.ref i1) (.ref i2)) (hTO : IsPair s.heap TO a b)
    (h1 : ItK ka s.heap i1 l1 k1) (h2 : ItK kb s.heap i2 l2 k2) (hl1 : SqK ka s.heap l1 xs) (hl2 : SqK kb s.heap l2 ys) (hx : xs[k1]? = some x) (hy : ys[k2]? = some y)
    (hQ : ∀ h' : Heap, IsZs h' z TI TO (rawInt (s.heap.objs.size : Int)) → IsPair h' TO x y → ItK ka h' i1 l1 (k1 + 1) → ItK kb h' i2 l2 (k2 + 1) → IsPair h' s.heap.objs.size x y → h'.objs.size = s.heap.objs.size + 1 →
      (∀ (c : Addr) (o : Obj), c ≠ z → c ≠ TO → c ≠ i1 → c ≠ i2 → s.heap.get? c = some o → h'.get? c = some o) → Q (.ref s.heap.objs.size) { heap := h', gens := s.gens, drawn := s.drawn, toks := s.toks, os := s.os }) :
    wpAny (model prog w) A (Builtin.«zip.__next__» ⟨[.ref z], []⟩) (fun fin s' => ∃ v, fin = Fin.done (.ret v) ∧ Q v s') E s := by
  unfold Builtin.«zip.__next__»
  refine wpAny_bind (show wpAny _ _ (pure (Value.ref z, ([] : List Value))) _ _ _ from wpAny_pure ?_)
  refine wpAny_bind (wpAny_field (x := .bool true) hz rfl rfl ?_)
  refine wpAny_bind (wpAny_field (x := .ref TI) hz rfl rfl ?_)
  refine wpAny_bind (wpAny_seqItems hTI rfl ?_)
  dsimp only
  rw [if_neg (show ¬ (#[Value.ref i1, Value.ref i2].isEmpty = true) from fun q => nomatch q)]
  refine wpAny_bind ?_
  unfold Builtin.SmallTypes.ownedTupleIsFree
  refine wpAny_bind (wpAny_field (x := .none) hz rfl rfl (wpAny_pure ?_))
  rw [if_pos rfl]
  refine wpAny_bind (wpAny_rule ?_)
  refine wpAny_bind (wpAny_field (x := .ref TO) hz rfl rfl ?_)
  dsimp only
  refine wpAny_bind (wpAny_setField_rec hz (show 0 < 5 by decide) fun h₁ hz₁ hs₁ => ?_)
  have hz₁' : h₁.get? z = some ⟨.type "zip", none, .fields #[.ellipsis, .bool false, .bool true, .ref TI, .ref TO], #[]⟩ := hz₁
  refine wpAny_bind ?_
  show wpAny _ _ (forIn [(Value.ref i1, 0), (Value.ref i2, 1)] _ _) _ _ _
  simp only [List.forIn_cons, List.forIn_nil]
  have g1 := h1.ext hs₁.extBut D.i1z
  refine wpAny_bind (wpAny_bind (wpAny_onRaise (show wpAny _ _ (Builtin.SmallTypes.nextOrEnd (.ref i1)) _ _ _ from nx_item (s := { heap := h₁, gens := s.gens, drawn := s.drawn, toks := s.toks, os := s.os }) g1 (hl1.ext hs₁.extBut D.l1z) hx fun h₂ h1₂ hs₂ => ?_)))
  have hTO₂ : IsPair h₂ TO a b := hs₂.extBut TO _ D.TOi1 (hs₁.extBut TO _ D.TOz hTO)
  dsimp only
  refine wpAny_bind (wpAny_seqItems hTO₂ rfl ?_)
  refine wpAny_bind (wpAny_updateSeq_pair hTO₂ fun h₃ hTO₃ hs₃ => ?_)
  refine wpAny_bind (wpAny_letGo (wpAny_pure ?_))
  have hTO₃' : IsPair h₃ TO x b := hTO₃
  have g2 : ItK kb h₃ i2 l2 k2 := ((h2.ext hs₁.extBut D.i2z).ext hs₂.extBut D.i12.symm).ext hs₃.extBut D.TOi2.symm
  have q2 : SqK kb h₃ l2 ys := ((hl2.ext hs₁.extBut D.l2z).ext hs₂.extBut D.l2i1).ext hs₃.extBut D.l2TO
  refine wpAny_bind (wpAny_bind (wpAny_onRaise (show wpAny _ _ (Builtin.SmallTypes.nextOrEnd (.ref i2)) _ _ _ from nx_item (s := { heap := h₃, gens := s.gens, drawn := s.drawn, toks := s.toks, os := s.os }) g2 q2 hy fun h₄ h2₄ hs₄ => ?_)))
  have hTO₄ : IsPair h₄ TO x b := hs₄.extBut TO _ D.TOi2 hTO₃'
  dsimp only
  refine wpAny_bind (wpAny_seqItems hTO₄ rfl ?_)
  refine wpAny_bind (wpAny_updateSeq_pair hTO₄ fun h₅ hTO₅ hs₅ => ?_)
  refine wpAny_bind (wpAny_letGo (wpAny_pure ?_))
  have hTO₅' : IsPair h₅ TO x y := hTO₅
  refine wpAny_pure ?_
  dsimp only
  refine wpAny_bind (wpAny_seqItems hTO₅' rfl ?_)
  dsimp only
  refine wpAny_bind (wpAny_newTuple ?_ (show ([x, y] : List Value).length ≤ sizeLine by rw [sizeLine_eq]; exact (by decide : 2 ≤ 16777216)))
  have e5 : h₅.objs.size = s.heap.objs.size := by rw [hs₅.1, hs₄.1, hs₃.1, hs₂.1]; exact hs₁.1
  have hz₅ : h₅.get? z = some ⟨.type "zip", none, .fields #[.ellipsis, .bool false, .bool true, .ref TI, .ref TO], #[]⟩ := hs₅.extBut z _ D.TOz.symm (hs₄.extBut z _ D.i2z.symm (hs₃.extBut z _ D.TOz.symm (hs₂.extBut z _ D.i1z.symm hz₁')))
  have lt5 : ∀ {c : Addr} {o : Obj}, h₅.get? c = some o → c ≠ h₅.objs.size := fun q => Nat.ne_of_lt (Heap.lt_size q)
  unfold Builtin.SmallTypes.ownedTupleHandOut
  dsimp only
  have hz₆ := Heap.get?_push_of_some (h := h₅) (⟨.type "tuple", none, .seq [x, y].toArray, #[]⟩ : Obj) hz₅
  refine wpAny_bind (wpAny_bind (wpAny_setField_rec hz₆ (show 0 < 5 by decide) fun h₇ hz₇ hs₇ => ?_))
  refine wpAny_setField_rec hz₇ (show 1 < 5 by decide) fun h₈ hz₈ hs₈ => ?_
  have hz₈' : IsZs h₈ z TI TO (rawInt (h₅.objs.size : Int)) := hz₈
  have up : ∀ {c : Addr} {o : Obj}, c ≠ z → h₅.get? c = some o → h₈.get? c = some o := fun n q => hs₈.extBut _ _ n (hs₇.extBut _ _ n (Heap.get?_push_of_some _ q))
  have nz : h₅.objs.size ≠ z := fun q => lt5 hz₅ q.symm
  have h1₅ : ItK ka h₅ i1 l1 (k1 + 1) := ((h1₂.ext hs₃.extBut D.TOi1.symm).ext hs₄.extBut D.i12).ext hs₅.extBut D.TOi1.symm
  have h2₅ : ItK kb h₅ i2 l2 (k2 + 1) := h2₄.ext hs₅.extBut D.TOi2.symm
  have ex8 : Heap.ExtBut z h₅ h₈ := fun c o n q => up n q
  refine wpAny_pure ⟨_, rfl, ?_⟩
  have key := hQ h₈ (by rw [← e5]; exact hz₈') (up D.TOz hTO₅') (h1₅.ext ex8 D.i1z) (h2₅.ext ex8 D.i2z) (by
      rw [← e5]
      exact hs₈.extBut _ _ nz (hs₇.extBut _ _ nz (Heap.get?_push_size h₅ rfl))) (by
      rw [hs₈.1, hs₇.1, Heap.size_push, e5]) (fun c o n1 n2 n3 n4 q => up n1 (hs₅.extBut _ _ n2 (hs₄.extBut _ _ n4 (hs₃.extBut _ _ n2 (hs₂.extBut _ _ n3 (hs₁.extBut _ _ n1 q))))))
  rw [← e5] at key
  exact key
theorem zs_next_end {ka kb : Bool} {z TI TO i1 i2 l1 l2 : Addr} {k1 k2 : Nat} {xs ys : Array Value} {Q : PySem.Fin → Shared → Prop} (hh : A.handled = none) (D : ZipApart z TI TO i1 i2 l1 l2) (hz : IsZs s.heap z TI TO .none) (hTI : IsPair s.heap TI (.ref i1) (.ref i2))
    (h1 : ItK ka s.heap i1 l1 k1) (h2 : ItK kb s.heap i2 l2 k2) (hl1 : SqK ka s.heap l1 xs) (hl2 : SqK kb s.heap l2 ys) (hx : xs[k1]? = none) (hy : ys[k2]? = none)
    (hE : ∀ (h' : Heap) (e : Addr), (∀ (c : Addr) (o : Obj), c ≠ z → c ≠ TO → c ≠ i1 → c ≠ i2 → s.heap.get? c = some o → h'.get? c = some o) → (∃ o, h'.get? e = some o ∧ o.cls = Value.type "StopIteration") → E (.ref e) { heap := h', gens := s.gens, drawn := s.drawn, toks := s.toks, os := s.os }) :
    wpAny (model prog w) A (Builtin.«zip.__next__» ⟨[.ref z], []⟩) Q E s := by
  unfold Builtin.«zip.__next__»
  refine wpAny_bind (show wpAny _ _ (pure (Value.ref z, ([] : List Value))) _ _ _ from wpAny_pure ?_)
  refine wpAny_bind (wpAny_field (x := .bool true) hz rfl rfl ?_)
  refine wpAny_bind (wpAny_field (x := .ref TI) hz rfl rfl ?_)
  refine wpAny_bind (wpAny_seqItems hTI rfl ?_)
  dsimp only
  rw [if_neg (show ¬ (#[Value.ref i1, Value.ref i2].isEmpty = true) from fun q => nomatch q)]
  refine wpAny_bind ?_
  unfold Builtin.SmallTypes.ownedTupleIsFree
  refine wpAny_bind (wpAny_field (x := .none) hz rfl rfl (wpAny_pure ?_))
  rw [if_pos rfl]
  refine wpAny_bind (wpAny_rule ?_)
  refine wpAny_bind (wpAny_field (x := .ref TO) hz rfl rfl ?_)
  dsimp only
  refine wpAny_bind (wpAny_setField_rec hz (show 0 < 5 by decide) fun h₁ hz₁ hs₁ => ?_)
  have hz₁' : h₁.get? z = some ⟨.type "zip", none, .fields #[.ellipsis, .bool false, .bool true, .ref TI, .ref TO], #[]⟩ := hz₁
  refine wpAny_bind ?_
  show wpAny _ _ (forIn [(Value.ref i1, 0), (Value.ref i2, 1)] _ _) _ _ _
  simp only [List.forIn_cons, List.forIn_nil]
  have g1 := h1.ext hs₁.extBut D.i1z
  refine wpAny_bind (wpAny_bind (wpAny_onRaise (show wpAny _ _ (Builtin.SmallTypes.nextOrEnd (.ref i1)) _ _ _ from nx_end (s := { heap := h₁, gens := s.gens, drawn := s.drawn, toks := s.toks, os := s.os }) hh g1 (hl1.ext hs₁.extBut D.l1z) hx fun h₂ hs₂ => ?_)))
  dsimp only
  have hz₂ := hs₂ z _ D.i1z.symm hz₁'
  refine wpAny_bind (wpAny_setField_rec hz₂ (show 0 < 5 by decide) fun h₃ hz₃ hs₃ => ?_)
  have g2 : ItK kb h₃ i2 l2 k2 := ((h2.ext hs₁.extBut D.i2z).ext hs₂ D.i12.symm).ext hs₃.extBut D.i2z
  have q2 : SqK kb h₃ l2 ys := ((hl2.ext hs₁.extBut D.l2z).ext hs₂ D.l2i1).ext hs₃.extBut D.l2z
  refine wpAny_bind ?_
  show wpAny _ _ (Bind.bind (forIn [(Value.ref i2, 1)] PUnit.unit _) _) _ _ _
  refine wpAny_bind ?_
  simp only [List.forIn_cons, List.forIn_nil]
  refine wpAny_bind (wpAny_bind (nx_end (s := { heap := h₃, gens := s.gens, drawn := s.drawn, toks := s.toks, os := s.os }) hh g2 q2 hy fun h₄ hs₄ => ?_))
  rw [if_neg (show ¬ ((none : Option Value).isSome = true) from fun q => nomatch q)]
  refine wpAny_pure (wpAny_pure ?_)
  refine wpAny_bind (wpAny_rule (stop_it hh fun h' e k he => hE h' e (fun c o n1 n2 n3 n4 q => k _ _ (hs₄ _ _ n4 (hs₃.extBut _ _ n1 (hs₂ _ _ n3 (hs₁.extBut _ _ n1 q))))) he))
theorem pyNext_zs_item {ka kb : Bool} {z TI TO i1 i2 l1 l2 : Addr} {k1 k2 : Nat} {xs ys : Array Value} {x y a b : Value} {Q : Option Value → Shared → Prop} (D : ZipApart z TI TO i1 i2 l1 l2) (hz : IsZs s.heap z TI TO .none) (hTI : IsPair s.heap TI (.ref i1) (.ref i2)) (hTO : IsPair s.heap TO a b)
    (h1 : ItK ka s.heap i1 l1 k1) (h2 : ItK kb s.heap i2 l2 k2) (hl1 : SqK ka s.heap l1 xs) (hl2 : SqK kb s.heap l2 ys) (hx : xs[k1]? = some x) (hy : ys[k2]? = some y)
    (hQ : ∀ h' : Heap, IsZs h' z TI TO (rawInt (s.heap.objs.size : Int)) → IsPair h' TO x y → ItK ka h' i1 l1 (k1 + 1) → ItK kb h' i2 l2 (k2 + 1) → IsPair h' s.heap.objs.size x y → h'.objs.size = s.heap.objs.size + 1 →
      (∀ (c : Addr) (o : Obj), c ≠ z → c ≠ TO → c ≠ i1 → c ≠ i2 → s.heap.get? c = some o → h'.get? c = some o) → Q (some (.ref s.heap.objs.size)) { heap := h', gens := s.gens, drawn := s.drawn, toks := s.toks, os := s.os }) :
    wpAny (model prog w) A (pyNext (.ref z)) Q E s := by
  have hT : s.TypeIs (.ref z) "zip" := ⟨_, hz, rfl⟩
  unfold pyNext
  exact wpAny_bind (wpAny_attempt (wpAny_callSpecial?_slot hT F.slot_zip_next (wpAny_call_entry F.slot_zip_next hT F.entry_zip_next (zs_next_item D hz hTI hTO h1 h2 hl1 hl2 hx hy fun h' a1 a2 a3 a4 a5 a6 a7 => wpAny_pure (hQ h' a1 a2 a3 a4 a5 a6 a7)) (F.args_zip_next_1 (.ref z)))))
theorem pyNext_zs_end {ka kb : Bool} {z TI TO i1 i2 l1 l2 : Addr} {k1 k2 : Nat} {xs ys : Array Value} {Q : Option Value → Shared → Prop} (hh : A.handled = none) (D : ZipApart z TI TO i1 i2 l1 l2) (hz : IsZs s.heap z TI TO .none) (hTI : IsPair s.heap TI (.ref i1) (.ref i2))
    (h1 : ItK ka s.heap i1 l1 k1) (h2 : ItK kb s.heap i2 l2 k2) (hl1 : SqK ka s.heap l1 xs) (hl2 : SqK kb s.heap l2 ys) (hx : xs[k1]? = none) (hy : ys[k2]? = none)
    (hQ : ∀ h' : Heap, (∀ (c : Addr) (o : Obj), c ≠ z → c ≠ TO → c ≠ i1 → c ≠ i2 → s.heap.get? c = some o → h'.get? c = some o) → Q none { heap := h', gens := s.gens, drawn := s.drawn, toks := s.toks, os := s.os }) :
    wpAny (model prog w) A (pyNext (.ref z)) Q E s := by
  have hT : s.TypeIs (.ref z) "zip" := ⟨_, hz, rfl⟩
  unfold pyNext
  exact wpAny_bind (wpAny_attempt (wpAny_callSpecial?_slot hT F.slot_zip_next (wpAny_call_entry F.slot_zip_next hT F.entry_zip_next (zs_next_end hh D hz hTI h1 h2 hl1 hl2 hx hy fun h' e hk ⟨o, ho, hc⟩ =>
    wpAny_bind (wpAny_isInstance ⟨o, ho, hc⟩ isSubtype_stop (wpAny_pure (hQ h' hk)))) (F.args_zip_next_1 (.ref z)))))
end
end FL

set_option Elab.async false
set_option linter.all false
set_option maxRecDepth 100000
set_option maxHeartbeats 4000000
namespace FL
open PySem PySem.Spec PyProof.Rows L2
section
variable {prog : Program} {w : World} {A : Around} {E : Value → Shared → Prop} {s : Shared}
def itO (k : Bool) (l : Addr) : Obj := match k with
  | true => ⟨.type "list_iterator", none, .fields #[.ref l, .int 0 0], #[]⟩
  | false => ⟨.type "tuple_iterator", none, .fields #[.ref l, .int 0 0], #[]⟩
theorem iter_k {k : Bool} {l : Addr} {xs : Array Value} {Q : Value → Shared → Prop} (h : SqK k s.heap l xs) (hq : Q (.ref s.heap.objs.size) { heap := s.heap.push (itO k l), gens := s.gens, drawn := s.drawn, toks := s.toks, os := s.os }) : wpAny (model prog w) A (pyIter (.ref l)) Q E s := by
  cases k with
  | true => exact wpAny_pyIter_list h hq
  | false => exact wpAny_pyIter_tuple h hq
theorem SqK.push {k : Bool} {h : Heap} {l : Addr} {xs : Array Value} (e : SqK k h l xs) (o : Obj) : SqK k (h.push o) l xs := by
  cases k with
  | true => exact Heap.IsList.push e o
  | false =>
    obtain ⟨u, e1, e2⟩ := (show h.IsTuple l xs from e)
    exact ⟨u, Heap.get?_push_of_some _ e1, e2⟩
abbrev zH1 (h : Heap) (ka : Bool) (l1 : Addr) : Heap := h.push (itO ka l1)
abbrev zH2 (h : Heap) (ka kb : Bool) (l1 l2 : Addr) : Heap := (zH1 h ka l1).push (itO kb l2)
abbrev zH3 (h : Heap) (ka kb : Bool) (l1 l2 : Addr) : Heap := (zH2 h ka kb l1 l2).push ⟨.type "tuple", none, .seq #[.ref h.objs.size, .ref (zH1 h ka l1).objs.size], #[]⟩
abbrev zH4 (h : Heap) (ka kb : Bool) (l1 l2 : Addr) : Heap := (zH3 h ka kb l1 l2).push ⟨.type "tuple", none, .seq #[.none, .none], #[]⟩
abbrev zH5 (h : Heap) (ka kb : Bool) (l1 l2 : Addr) : Heap := (zH4 h ka kb l1 l2).push ⟨.type "zip", none, .fields #[.none, .bool false, .bool true, .ref (zH2 h ka kb l1 l2).objs.size, .ref (zH3 h ka kb l1 l2).objs.size], #[]⟩
abbrev kwS : List (Str × Value) := [("strict", .bool true)]
theorem zs_new {ka kb : Bool} {l1 l2 : Addr} {xs ys : Array Value} {Q : Value → Shared → Prop} (hl1 : SqK ka s.heap l1 xs) (hl2 : SqK kb s.heap l2 ys)
    (hq : Q (.ref (zH4 s.heap ka kb l1 l2).objs.size) { heap := zH5 s.heap ka kb l1 l2, gens := s.gens, drawn := s.drawn, toks := s.toks, os := s.os }) :
    wpAny (model prog w) A (Builtin.«zip.__new__» ⟨[.type "zip", .ref l1, .ref l2], kwS⟩) (fun fin s' => ∃ v, fin = Fin.done (.ret v) ∧ Q v s') E s := by
  unfold Builtin.«zip.__new__»
  refine wpAny_bind ?_
  unfold Builtin.SmallTypes.newClass
  dsimp only
  refine wpAny_bind (show wpAny _ _ (pure true) _ _ _ from wpAny_pure ?_)
  refine wpAny_ite_false (by rfl) ?_
  refine wpAny_bind (wpAny_of_eq sub_zip ?_)
  refine wpAny_ite_false (by rfl) (wpAny_pure ?_)
  dsimp only
  refine wpAny_ite_false (by rfl) ?_
  refine wpAny_ite_false (by rfl) ?_
  refine wpAny_bind (show wpAny _ _ (pure true) _ _ _ from wpAny_pure ?_)
  refine wpAny_bind ?_
  unfold Builtin.SmallTypes.iterAll
  simp only [List.forIn_cons, List.forIn_nil]
  refine wpAny_bind (wpAny_bind (wpAny_bind (wpAny_holding (iter_k hl1 (wpAny_pure ?_)))))
  dsimp only
  refine wpAny_bind (wpAny_bind (wpAny_holding (iter_k (s := { heap := s.heap.push (itO ka l1), gens := s.gens, drawn := s.drawn, toks := s.toks, os := s.os }) (hl2.push _) (wpAny_pure ?_))))
  dsimp only
  refine wpAny_pure (wpAny_pure ?_)
  refine wpAny_bind (wpAny_newTuple ?_ (show ([_, _] : List Value).length ≤ sizeLine by rw [sizeLine_eq]; exact (by decide : 2 ≤ 16777216)))
  refine wpAny_bind (wpAny_newTuple ?_ (show ([_, _] : List Value).length ≤ sizeLine by rw [sizeLine_eq]; exact (by decide : 2 ≤ 16777216)))
  refine wpAny_bind ?_
  unfold Builtin.SmallTypes.newRecord
  dsimp only
  refine wpAny_newObj_type (wpAny_pure ⟨_, rfl, hq⟩) ?_
  show 5 ≤ sizeLine + 2
  rw [sizeLine_eq]
  decide
theorem argsI (o : Value) (l1 l2 : Addr) : argsOk "object.__init__" ⟨[o, .ref l1, .ref l2], kwS⟩ := by kernel_rfl
theorem zs_init {o : Value} {l1 l2 : Addr} {Q : PySem.Fin → Shared → Prop} (h : s.TypeIs o "zip") (hq : Q (.done (.ret .none)) s) : wpAny (model prog w) A (Builtin.«object.__init__» ⟨[o, .ref l1, .ref l2], kwS⟩) Q E s := by
  unfold Builtin.«object.__init__»
  dsimp only
  rw [if_pos (by rfl)]
  refine wpAny_bind (wpAny_typeOf h ?_)
  refine wpAny_bind (wpAny_of_eq F.called_zip.init.lookup ?_)
  refine wpAny_bind (wpAny_of_eq F.called_zip.made ?_)
  rw [if_neg (by decide), if_neg (by decide)]
  exact wpAny_pure hq
theorem call_zs {ka kb : Bool} {l1 l2 : Addr} {xs ys : Array Value} {Q : Value → Shared → Prop} (hl1 : SqK ka s.heap l1 xs) (hl2 : SqK kb s.heap l2 ys)
    (hq : Q (.ref (zH4 s.heap ka kb l1 l2).objs.size) { heap := zH5 s.heap ka kb l1 l2, gens := s.gens, drawn := s.drawn, toks := s.toks, os := s.os }) : wpAny (model prog w) A (call (.type "zip") [.ref l1, .ref l2] kwS) Q E s := by
  obtain ⟨c, tl, hmro⟩ := F.called_zip.mro
  have hT : ({ heap := zH5 s.heap ka kb l1 l2, gens := s.gens, drawn := s.drawn, toks := s.toks, os := s.os } : Shared).TypeIs (.ref (zH4 s.heap ka kb l1 l2).objs.size) "zip" := ⟨_, Heap.get?_push_size _ rfl, rfl⟩
  refine wpAny_call (codeAny_of_tree ?_)
  refine wpAny_pure ⟨Code.quiet_builtin ⟨.type "zip" :: [.ref l1, .ref l2], kwS⟩ (by decide +kernel), codeAny_builtin F.entry_type_call ?_⟩
  rw [Around.under_plain (weight_type_call_type "zip" [.ref l1, .ref l2] kwS) (units_type_call_type "zip" [.ref l1, .ref l2] kwS)]
  unfold Builtin.«type.__call__»
  dsimp only
  refine wpAny_ite_false (by rfl) ?_
  refine wpAny_ite_false (by decide +kernel) ?_
  refine wpAny_bind (wpAny_of_eq (show checkTypeCall "zip" ⟨[.ref l1, .ref l2], kwS⟩ = pure () by first | rfl | kernel_rfl) ?_)
  refine wpAny_bind (wpAny_of_eq hmro ?_)
  refine wpAny_ite_false (by rfl) ?_
  refine wpAny_bind (wpAny_of_eq F.called_zip.made ?_)
  refine wpAny_bind (wpAny_pure ?_)
  refine wpAny_bind (wpAny_holding (wpAny_call (codeAny_call_builtin F.called_zip.plain F.entry_zip_new ?_)))
  refine wpAny_of_eq (show checkBuiltinCall "zip.__new__" ⟨[.type "zip", .ref l1, .ref l2], kwS⟩ = pure () by first | rfl | with_unfolding_all rfl | kernel_rfl) ?_
  refine wpAny_mono (zs_new (Q := fun v s' => v = .ref (zH4 s.heap ka kb l1 l2).objs.size ∧ s' = { heap := zH5 s.heap ka kb l1 l2, gens := s.gens, drawn := s.drawn, toks := s.toks, os := s.os }) hl1 hl2 ⟨rfl, rfl⟩) ?_ (fun _ _ h => h)
  rintro fin s' ⟨v, rfl, rfl, rfl⟩
  show wpAny _ _ (Bind.bind (isInstance _ _) _) _ _ _
  refine wpAny_bind (wpAny_isInstance hT sub_zip ?_)
  refine wpAny_ite_false (by rfl) ?_
  refine wpAny_bind (wpAny_holding (wpAny_callSpecial?_slot hT F.called_zip.init ?_))
  refine wpAny_call (codeAny_call_builtin (by decide +kernel) F.entry_object_init (F.called_zip.init.check _ _ _ _ _ _ _ _ hT (argsI _ _ _) (zs_init (A := A.in1.in1) hT ?_)))
  dsimp only
  refine wpAny_ite_false (by rfl) ?_
  exact wpAny_pure hq
end
end FL

set_option Elab.async false
set_option linter.all false
set_option maxRecDepth 100000
set_option maxHeartbeats 400000
namespace FL
open PySem PySem.Spec PyProof.Rows L2
theorem callWith_typeK {M : Model} {A : Around} {E : Value → Shared → Prop} {s : Shared} {pos : Pos} {T : String} {args : List (Bool × Sem Value)} {kws : List (Option Str × Sem Value)} {Q : Value → Shared → Prop} (hp : args.any (·.1) = false) (hk : kws.any (·.1.isNone) = false)
    (h : wpAny M A (evalArgs (.type T) true args kws) (fun a s₁ => wpAny M A (call (.type T) a.pos a.kw) Q E s₁) E s) : wpAny M A (callWith pos (.type T) [] args kws) Q E s := by
  unfold callWith
  refine wpAny_bind (wpAny_holding (wpAny_mono h (fun a s₁ h₁ => wpAny_bind (wpAny_standAt ?_)) fun _ _ h => h))
  rw [hp, hk]
  refine wpAny_bind (show wpAny _ _ (pure _) _ _ _ from wpAny_pure ?_)
  exact wpAny_bind (wpAny_mono h₁ (fun r s₂ hr => wpAny_bind (wpAny_holding (wpAny_point (wpAny_pure hr)))) fun _ _ h => h)
section
variable {prog : Program} {w : World} {A : Around} {E : Value → Shared → Prop} {s : Shared}
theorem letGo_zs {elts : List Expr} {k : Nat} {pos : Pos} {z TI TO T : Addr} {Q : Unit → Shared → Prop} (hz : IsZs s.heap z TI TO (rawInt (T : Int)))
    (hQ : ∀ h' : Heap, IsZs h' z TI TO .none → Heap.SameBut z s.heap h' → Q () { heap := h', gens := s.gens, drawn := s.drawn, toks := s.toks, os := s.os }) : wpAny (model prog w) A (letOwnedTupleGo (.Tuple elts k pos) (.ref z) (.ref T)) Q E s := by
  unfold letOwnedTupleGo
  refine wpAny_bind (wpAny_load hz ?_)
  dsimp only
  rw [if_pos (by simp)]
  exact wpAny_bind (wpAny_rule (wpAny_setField_rec hz (show 0 < 5 by decide) fun h' a b => hQ h' a b))
theorem iter_zs {z TI TO : Addr} {f0 : Value} {Q : Value → Shared → Prop} (hz : IsZs s.heap z TI TO f0) (h : Q (.ref z) s) : wpAny (model prog w) A (pyIter (.ref z)) Q E s :=
  have hT : s.TypeIs (.ref z) "zip" := ⟨_, hz, rfl⟩
  wpAny_pyIter_slot hT F.slot_zip_iter (wpAny_call_entry F.slot_zip_iter hT F.entry_zip_iter (wpAny_pure ⟨_, rfl, "zip", _, hT, F.slot_zip_next.lookup, h⟩) (F.args_zip_iter_1 (.ref z)))
end
def SqV (k : Bool) (K : PySem.W.Frag) (H : Hp) (a : Addr) (xs : List V) : Prop := match k with | true => SqL K H a xs | false => SqT K H a xs
def Itzs (K : PySem.W.Frag) (ka kb : Bool) (a b : Addr) : It :=
  ⟨fun i H => ∃ xs ys x y, SqV ka K H a xs ∧ SqV kb K H b ys ∧ xs[i]? = some x ∧ ys[i]? = some y,
   fun i H v H' => ∃ T x y, v = .ref T ∧ H T = none ∧ H' = upd H T (.tup [x, y]) ∧ (∀ xs, SqV ka K H a xs → xs[i]? = some x) ∧ ∀ ys, SqV kb K H b ys → ys[i]? = some y,
   fun i H => ∃ xs ys, SqV ka K H a xs ∧ SqV kb K H b ys ∧ xs.length ≤ i ∧ ys.length ≤ i⟩
section
variable {X : Cx} {pins : List (Addr × Obj)} {σ : L2.St} {H : Hp} {s : Shared}
theorem inv_sq {k : Bool} {a : Addr} {xs : List V} (I : Inv X pins σ H s) (h : SqV k X.K H a xs) : ∃ its, Vals xs its ∧ SqK k s.heap a its.toArray := by
  cases k with
  | true =>
    obtain ⟨its, h1, h2, _⟩ := I.list h
    exact ⟨its, h1, h2.isList⟩
  | false =>
    obtain ⟨its, h1, h2, _⟩ := I.tuple h
    exact ⟨its, h1, h2⟩
theorem inv_sq_inj {k : Bool} {a : Addr} {xs ys : List V} (I : Inv X pins σ H s) (h : SqV k X.K H a xs) (h2 : SqV k X.K H a ys) : xs = ys := by
  cases k with
  | true => exact I.list_inj h h2
  | false => exact I.tuple_inj h h2
theorem ItK.lt {k : Bool} {h : Heap} {a l : Addr} {i : Nat} (e : ItK k h a l i) : ∃ o, h.get? a = some o ∧ ∀ v, o.data ≠ .cell v := by
  cases k with
  | true =>
    obtain ⟨o, e1, e2, e3⟩ := (show h.IsListIter a l i from e)
    exact ⟨o, e1, fun v q => by rw [e3] at q; cases q⟩
  | false =>
    obtain ⟨o, e1, e2, e3⟩ := (show h.IsTupleIter a l i from e)
    exact ⟨o, e1, fun v q => by rw [e3] at q; cases q⟩
theorem ItK.at {k : Bool} {h h' : Heap} {a l : Addr} {i : Nat} (e : ItK k h a l i) (q : ∀ o, h.get? a = some o → h'.get? a = some o) : ItK k h' a l i := by
  cases k with
  | true => exact Heap.IsListIter.at e q
  | false => exact Heap.IsTupleIter.at e q
theorem turn_zs {P : Program} {w : World} {K : PySem.W.Frag} {elts : List Expr} {kk : Nat} {tpos : Pos} {ka kb : Bool} {a b z TI TO i1 i2 : Addr} (D : ZipApart z TI TO i1 i2 a b) :
    Turn P w K (.Tuple elts kk tpos) (Itzs K ka kb a b) [z, TI, TO, i1, i2] z fun i h => IsZs h z TI TO .none ∧ IsPair h TI (.ref i1) (.ref i2) ∧ (∃ x y, IsPair h TO x y) ∧ ItK ka h i1 a i ∧ ItK kb h i2 b i := by
  have nin : ∀ {c : Addr}, c ∉ [z, TI, TO, i1, i2] → c ≠ z ∧ c ≠ TI ∧ c ≠ TO ∧ c ≠ i1 ∧ c ≠ i2 := fun h => by simpa using h
  refine ⟨by simp, fun i h ⟨hz, hTI, ⟨x, y, hTO⟩, h1, h2⟩ c hc => ?_, fun i h h' ⟨hz, hTI, ⟨x, y, hTO⟩, h1, h2⟩ k => ?_, fun X hP hw hK hc i pins s σ H E I hf st hg => ?_, fun X hP hw hK hc i pins s σ H E I hf st hg => ?_, fun A i s Q E st h => iter_zs st.1 h⟩
  · have e : c = z ∨ c = TI ∨ c = TO ∨ c = i1 ∨ c = i2 := by simpa using hc
    rcases e with e | e | e | e | e
    · exact ⟨_, by rw [e]; exact hz, by intro v q; cases q⟩
    · exact ⟨_, by rw [e]; exact hTI, by intro v q; cases q⟩
    · exact ⟨_, by rw [e]; exact hTO, by intro v q; cases q⟩
    · rw [e]
      exact h1.lt
    · rw [e]
      exact h2.lt
  · exact ⟨k z (by simp) _ hz, k TI (by simp) _ hTI, ⟨x, y, k TO (by simp) _ hTO⟩, h1.at (k i1 (by simp)), h2.at (k i2 (by simp))⟩
  · subst hP hw hK
    obtain ⟨hz, hTI, ⟨x0, y0, hTO⟩, h1, h2⟩ := st
    obtain ⟨xs, ys, x, y, hqx, hqy, hx, hy⟩ := hg
    obtain ⟨its, rv, p⟩ := inv_sq I hqx
    obtain ⟨its2, rv2, p2⟩ := inv_sq I hqy
    obtain ⟨u, hu, ru⟩ := Vals.get rv hx
    obtain ⟨u2, hu2, ru2⟩ := Vals.get rv2 hy
    have hzl := Heap.lt_size hz
    refine pyNext_zs_item D hz hTI hTO h1 h2 p p2 (by simpa using hu) (by simpa using hu2) fun h' z' TO' h1' h2' hT hsz hk => ⟨_, rfl, letGo_zs z' fun h'' z'' sb => ?_⟩
    have hT2 : h''.get? s.heap.objs.size = _ := (sb.2 s.heap.objs.size (Nat.ne_of_gt hzl)).trans hT
    have new : ObjOk X.prog X.w (upd H s.heap.objs.size (.tup [x, y])) h'' s.heap.objs.size (.tup [x, y]) := ⟨by rw [sizeLine_eq]; exact (by decide : 2 ≤ 16777216), [u, u2], .cons ru (.cons ru2 .nil), _, hT2, rfl, 0, rfl⟩
    have kp : ∀ (c : Addr) (o : Obj), c ∉ [z, TI, TO, i1, i2] → s.heap.get? c = some o → h''.get? c = some o := fun c o hb q => by
      obtain ⟨n1, n2, n3, n4, n5⟩ := nin hb
      exact (sb.2 c n1).trans (hk c o n1 n3 n4 n5 q)
    have I1 := I.turnedNew (t' := s.toks) kp hf (Nat.le_refl _) new
    have lt1 : ∀ c ∈ [z, TI, TO, i1, i2], c < s.heap.objs.size := fun c hc => by
      have e : c = z ∨ c = TI ∨ c = TO ∨ c = i1 ∨ c = i2 := by simpa using hc
      rcases e with e | e | e | e | e
      · rw [e]; exact hzl
      · rw [e]; exact Heap.lt_size hTI
      · rw [e]; exact Heap.lt_size hTO
      · rw [e]
        obtain ⟨o, q, _⟩ := h1.lt
        exact Heap.lt_size q
      · rw [e]
        obtain ⟨o, q, _⟩ := h2.lt
        exact Heap.lt_size q
    refine ⟨.ref s.heap.objs.size, upd H s.heap.objs.size (.tup [x, y]), I1, rfl, ⟨_, x, y, rfl, I.hok.fresh (Nat.le_refl _), rfl, fun l hl => by rw [inv_sq_inj I hl hqx]; exact hx, fun l hl => by rw [inv_sq_inj I hl hqy]; exact hy⟩,
      ⟨z'', (sb.2 TI D.TIz).trans (hk TI _ D.TIz D.TITO D.TIi1 D.TIi2 hTI), ⟨u, u2, (sb.2 TO D.TOz).trans TO'⟩, h1'.at fun o q => (sb.2 i1 D.i1z).trans q, h2'.at fun o q => (sb.2 i2 D.i2z).trans q⟩, fun c hcm => ?_⟩
    rw [upd_ne (Nat.ne_of_lt (lt1 c hcm))]
    exact (hf c hcm).1
  · subst hP hw hK
    obtain ⟨hz, hTI, ⟨x0, y0, hTO⟩, h1, h2⟩ := st
    obtain ⟨xs, ys, hqx, hqy, hx, hy⟩ := hg
    obtain ⟨its, rv, p⟩ := inv_sq I hqx
    obtain ⟨its2, rv2, p2⟩ := inv_sq I hqy
    have l1 := Vals.length rv
    have l2 := Vals.length rv2
    refine pyNext_zs_end (I.ok.hd hc) D hz hTI h1 h2 p p2 (by simp; omega) (by simp; omega) fun h' hk => ⟨rfl, I.turnedL (t' := s.toks) (fun c o hb q => ?_) hf⟩
    obtain ⟨n1, n2, n3, n4, n5⟩ := nin hb
    exact hk c o n1 n3 n4 n5 q
end
theorem vals_2r {a b : Addr} {us : List Value} (h : Vals [V.ref a, V.ref b] us) : us = [.ref a, .ref b] := by
  cases h with
  | cons ra h =>
    cases h with
    | cons rb h =>
      cases h
      have e1 : _ = Value.ref a := ra
      have e2 : _ = Value.ref b := rb
      rw [e1, e2]
theorem vals_1b {b : Bool} {us : List Value} (h : Vals [V.bl b] us) : us = [.bool b] := by
  cases h with
  | cons ra h =>
    cases h
    have e1 : _ = Value.bool b := ra
    rw [e1]
def iZipS (K : PySem.W.Frag) (ta : TA) : TI := fun σ H R => ta σ H fun vs H1 => ∃ ka kb a b xs ys, vs = [.ref a, .ref b] ∧ SqV ka K H1 a xs ∧ SqV kb K H1 b ys ∧ R (Itzs K ka kb a b) H1
theorem pi_zipS {X : Cx} {e e2 : Expr} {ta : TA} {p pos tpos cp kp : Pos} {elts : List Expr} {kk j : Nat} (hg : Gl X "zip") (hm : X.mg "zip" = none) (ha : PA X [e, e2] ta) (hs : starEach [e, e2] X.env = (false, eval e X.env) :: starEach [e2] X.env := by rfl)
    (hpl : (backTo pos (starEach [e, e2] X.env)).any (·.1) = false := by rfl) (hk : (backToKw pos (keywordEach [⟨some "strict", .Constant (.bool true) j cp, kp⟩] X.env)).any (·.1.isNone) = false := by rfl)
    (hka : ((backToKw pos (keywordEach [⟨some "strict", .Constant (.bool true) j cp, kp⟩] X.env)).all fun x => x.fst.isSome) = true := by rfl)
    (hkn : List.filterMap (fun x => x.fst) (backToKw pos (keywordEach [⟨some "strict", .Constant (.bool true) j cp, kp⟩] X.env)) = [("strict" : Str)] := by rfl) :
    PI X (.Tuple elts kk tpos) (.Call (.Name "zip" p) [e, e2] [⟨some "strict", .Constant (.bool true) j cp, kp⟩] pos) (iZipS X.K ta) := ⟨fun pins s σ H R I h => by
  refine wpAny_Call_Name_kw (ld_blt I hg hm boot_zip (callWith_typeK hpl hk (PyProof.Rows.evalArgs_kw2 hka (thn (ha.run pos pins s σ H _ I h) fun us s1 ⟨vs, H1, I1, r1, ka, kb, a, b, xs, ys, ex, hx, hy, q⟩ => ?_) hs)))
  refine thn ((pk_cons pe_bl pk_nil : PK X [⟨some "strict", .Constant (.bool true) j cp, kp⟩] _).run pos pins s1 σ H1 (fun ks H2 => ks = [.bl true] ∧ H2 = H1) I1 ⟨rfl, rfl⟩) fun ks s2 ⟨kv, H2, I2, r2, ek, eh⟩ => ?_
  subst ex ek eh
  rw [hkn]
  obtain rfl := vals_2r r1
  obtain rfl := vals_1b r2
  obtain ⟨its, rv, p1⟩ := inv_sq I2 hx
  obtain ⟨its2, rv2, p2⟩ := inv_sq I2 hy
  refine call_zs p1 p2 ?_
  have z1 : (zH1 s2.heap ka a).objs.size = s2.heap.objs.size + 1 := Heap.size_push ..
  have z2 : (zH2 s2.heap ka kb a b).objs.size = s2.heap.objs.size + 2 := by rw [Heap.size_push, z1]
  have z3 : (zH3 s2.heap ka kb a b).objs.size = s2.heap.objs.size + 3 := by rw [Heap.size_push, z2]
  have z4 : (zH4 s2.heap ka kb a b).objs.size = s2.heap.objs.size + 4 := by rw [Heap.size_push, z3]
  have lt : ∀ {k : Bool} {c : Addr} {xs : Array Value}, SqK k s2.heap c xs → c < s2.heap.objs.size := fun {k c xs} h => by
    cases k with
    | true =>
      obtain ⟨o, q, _⟩ := (show s2.heap.IsList c xs from h)
      exact Heap.lt_size q
    | false =>
      obtain ⟨o, q, _⟩ := (show s2.heap.IsTuple c xs from h)
      exact Heap.lt_size q
  have la := lt p1
  have lb := lt p2
  have sz : ∀ (h : Heap) (o : Obj) (n : Nat), o.isFreed = false → h.objs.size = n → (h.push o).get? n = some o := fun h o n hf q => by
    subst q
    exact Heap.get?_push_size h hf
  have itF : ∀ (k : Bool) (l : Addr), (itO k l).isFreed = false := fun k l => by cases k <;> rfl
  have g5 : IsZs (zH5 s2.heap ka kb a b) (s2.heap.objs.size + 4) (s2.heap.objs.size + 2) (s2.heap.objs.size + 3) .none := by
    have q := sz (zH4 s2.heap ka kb a b) ⟨.type "zip", none, .fields #[.none, .bool false, .bool true, .ref (zH2 s2.heap ka kb a b).objs.size, .ref (zH3 s2.heap ka kb a b).objs.size], #[]⟩ _ rfl z4
    rw [z2, z3] at q
    show (Heap.push _ _).get? _ = _
    rw [z2, z3]
    exact q
  have g4 : IsPair (zH5 s2.heap ka kb a b) (s2.heap.objs.size + 3) .none .none := Heap.get?_push_of_some _ (sz _ _ _ rfl z3)
  have g3 : IsPair (zH5 s2.heap ka kb a b) (s2.heap.objs.size + 2) (.ref s2.heap.objs.size) (.ref (s2.heap.objs.size + 1)) := by
    have q := Heap.get?_push_of_some (⟨.type "tuple", none, .seq #[.none, .none], #[]⟩ : Obj) (sz (zH2 s2.heap ka kb a b) ⟨.type "tuple", none, .seq #[.ref s2.heap.objs.size, .ref (zH1 s2.heap ka a).objs.size], #[]⟩ _ rfl z2)
    have q2 := Heap.get?_push_of_some (⟨.type "zip", none, .fields #[.none, .bool false, .bool true, .ref (zH2 s2.heap ka kb a b).objs.size, .ref (zH3 s2.heap ka kb a b).objs.size], #[]⟩ : Obj) q
    exact q2.trans (by rw [z1])
  have it0 : ∀ {k : Bool} {l : Addr} {h : Heap} {c : Addr}, h.get? c = some (itO k l) → ItK k h c l 0 := fun {k l h c} q => by
    cases k with
    | true => exact ⟨_, q, rfl, rfl⟩
    | false => exact ⟨_, q, rfl, rfl⟩
  have g2 : ItK kb (zH5 s2.heap ka kb a b) (s2.heap.objs.size + 1) b 0 := it0 (Heap.get?_push_of_some _ (Heap.get?_push_of_some _ (Heap.get?_push_of_some _ (sz _ _ _ (itF _ _) z1))))
  have g1 : ItK ka (zH5 s2.heap ka kb a b) s2.heap.objs.size a 0 := it0 (Heap.get?_push_of_some _ (Heap.get?_push_of_some _ (Heap.get?_push_of_some _ (Heap.get?_push_of_some _ (sz _ _ _ (itF _ _) rfl)))))
  have D : ZipApart (s2.heap.objs.size + 4) (s2.heap.objs.size + 2) (s2.heap.objs.size + 3) s2.heap.objs.size (s2.heap.objs.size + 1) a b := by
    have la' : @LT.lt Nat instLTNat a s2.heap.objs.size := la
    have lb' : @LT.lt Nat instLTNat b s2.heap.objs.size := lb
    constructor <;> (intro q; have q' : (_ : Nat) = _ := q; omega)
  rw [z4]
  refine iter_zs (s := { heap := zH5 s2.heap ka kb a b, gens := s2.gens, drawn := s2.drawn, toks := s2.toks, os := s2.os }) g5 ?_
  refine ⟨_, _, _, Itzs X.K ka kb a b, H2, rfl, I2.kept fun c o q => Heap.get?_push_of_some _ (Heap.get?_push_of_some _ (Heap.get?_push_of_some _ (Heap.get?_push_of_some _ (Heap.get?_push_of_some _ q)))), turn_zs D, ⟨g5, g3, ⟨_, _, g4⟩, g1, g2⟩, fun c hc => ?_, q⟩
  have hge : s2.heap.objs.size ≤ c := by
    have e : c = s2.heap.objs.size + 4 ∨ c = s2.heap.objs.size + 2 ∨ c = s2.heap.objs.size + 3 ∨ c = s2.heap.objs.size ∨ c = s2.heap.objs.size + 1 := by simpa using hc
    rcases e with e | e | e | e | e <;> rw [e]
    · exact Nat.le_add_right _ 4
    · exact Nat.le_add_right _ 2
    · exact Nat.le_add_right _ 3
    · exact Nat.le_refl _
    · exact Nat.le_add_right _ 1
  exact I2.fpOk hge (I2.hok.fresh hge)⟩
section
variable {T : Tx} {X : Cx} {W : WX}
def zipD : List D → List D → List D
  | x :: xs, y :: ys => .tup [x, y] :: zipD xs ys
  | _, _ => []
theorem zipD_at : ∀ {xs ys : List D} {i : Nat} {d : D}, (zipD xs ys)[i]? = some d → ∃ x y, xs[i]? = some x ∧ ys[i]? = some y ∧ d = .tup [x, y]
  | x :: xs, y :: ys, 0, d, h => by
    unfold zipD at h
    simp at h
    exact ⟨x, y, rfl, rfl, h.symm⟩
  | x :: xs, y :: ys, i + 1, d, h => by
    unfold zipD at h
    exact zipD_at (i := i) (by simpa using h)
  | [], _, _, _, h => by simp [zipD] at h
  | _ :: _, [], _, _, h => by simp [zipD] at h
theorem zipD_len : ∀ {xs ys : List D}, xs.length = ys.length → (zipD xs ys).length = xs.length
  | x :: xs, y :: ys, h => by
    unfold zipD
    simp at h ⊢
    exact zipD_len h
  | [], _, h => by simp [zipD]
  | _ :: _, [], h => by simp at h
/-- a list or a tuple that stands -/
def seqD : Xv → Option (List D)
  | .d (.tup xs) => some xs
  | .d (.lst xs) => some xs
  | .d (.scr ns) => some (ns.map .int)
  | _ => none
theorem seqD_ok {w : Wd} {x : Xv} {v : V} {xs : List D} (e : RX T w x v) (h : seqD x = some xs) : ∃ k a vs, v = .ref a ∧ SqV k T.K w.G a vs ∧ Rs T w.G xs vs := by
  unfold seqD at h
  split at h
  · cases h
    obtain ⟨a, vs, f1, f2, f3⟩ := (show R T w.G (.tup xs) v from e : _)
    exact ⟨false, a, vs, f1, f2, f3⟩
  · cases h
    have x1' : R T w.G (.lst xs) v := e
    unfold R at x1'
    obtain ⟨a, vs, f1, f2, f3⟩ := x1'
    exact ⟨true, a, vs, f1, .of f2, f3⟩
  · rename_i ns
    cases h
    have x1' : R T w.G (.scr ns) v := e
    unfold R at x1'
    obtain ⟨a, f1, f2⟩ := x1'
    exact ⟨true, a, _, f1, f2, rs_ints ns⟩
  · cases h
theorem sqV_mono {k : Bool} {K : PySem.W.Frag} {G H : Hp} {a : Addr} {xs : List V} (g : Same G H) (h : SqV k K G a xs) : SqV k K H a xs := by
  cases k with
  | true => exact g.seq h
  | false => exact sqT_mono g h
theorem wk_zip {G : Hp} {ka kb : Bool} {a b : Addr} {vs us : List V} {xs ys : List D} (e1 : SqV ka T.K G a vs) (e2 : SqV kb T.K G b us) (h1 : Rs T G xs vs) (h2 : Rs T G ys us) (hl : xs.length = ys.length) : Wk T G (Itzs T.K ka kb a b) (zipD xs ys) := by
  refine ⟨fun i d w s H hi g r => ?_, fun w s H g r => ?_⟩
  · obtain ⟨x, y, hx, hy, rfl⟩ := zipD_at hi
    obtain ⟨v, hv, rv⟩ := h1.get hx
    obtain ⟨u, hu, ru⟩ := h2.get hy
    have q1 := sqV_mono r.g (sqV_mono g e1)
    have q2 := sqV_mono r.g (sqV_mono g e2)
    refine ⟨⟨vs, us, v, u, q1, q2, hv, hu⟩, ?_⟩
    rintro z H' ⟨t, v', u', rfl, ht, rfl, k1, k2⟩
    have f1 := k1 vs q1
    have f2 := k2 us q2
    rw [hv] at f1
    rw [hu] at f2
    cases f1
    cases f2
    obtain ⟨l, r'⟩ := r.laidG (o := .tup [v, u]) ht
    refine ⟨_, l, ?_, r'⟩
    show R T _ (.tup [x, y]) _
    unfold R
    exact ⟨t, [v, u], rfl, .inl (.inl upd_same), Rs.mono l.g (.cons (R.mono g rv) (.one (R.mono g ru)))⟩
  · exact ⟨vs, us, sqV_mono r.g (sqV_mono g e1), sqV_mono r.g (sqV_mono g e2), by rw [zipD_len hl, h1.length]; exact Nat.le_refl _, by rw [zipD_len hl, hl, h2.length]; exact Nat.le_refl _⟩
def zipSF (g : FA) : FE := fun ρ s => (g ρ s).bind fun xs s1 => match xs with
  | [x, y] => match seqD x, seqD y with
    | some as, some bs => if as.length = bs.length then .ok (.d (.lst (zipD as bs))) s1 else .stuck
    | _, _ => .stuck
  | _ => .stuck
theorem pfi_zipS {e e2 : Expr} {g : FA} {p pos tpos cp kp : Pos} {elts : List Expr} {kk j : Nat} (hK : X.K = T.K) (hm : X.mg "zip" = none) (ha : PFA T X W [e, e2] g) (hg : Gl X "zip" := by rfl) (hs : starEach [e, e2] X.env = (false, eval e X.env) :: starEach [e2] X.env := by rfl)
    (hpl : (backTo pos (starEach [e, e2] X.env)).any (·.1) = false := by rfl) (hk : (backToKw pos (keywordEach [⟨some "strict", .Constant (.bool true) j cp, kp⟩] X.env)).any (·.1.isNone) = false := by rfl)
    (hka : ((backToKw pos (keywordEach [⟨some "strict", .Constant (.bool true) j cp, kp⟩] X.env)).all fun x => x.fst.isSome) = true := by rfl)
    (hkn : List.filterMap (fun x => x.fst) (backToKw pos (keywordEach [⟨some "strict", .Constant (.bool true) j cp, kp⟩] X.env)) = [("strict" : Str)] := by rfl) :
    PFI T X W (.Tuple elts kk tpos) (.Call (.Name "zip" p) [e, e2] [⟨some "strict", .Constant (.bool true) j cp, kp⟩] pos) (zipSF g) :=
  PI.imp (pi_zipS hg hm ha hs hpl hk hka hkn) fun st H Q ⟨w, ρ, s, e, q, p⟩ => rdA_mono (postI_bindL e q p) fun us H1 ⟨w1, xs, s1, l1, e1, x1, r1, p1⟩ => by
    rw [hK]
    split at p1
    · rename_i x y
      split at p1
      · rename_i as bs ha hb
        split at p1
        · rename_i hl
          obtain ⟨v, u, rfl, x2, x3⟩ := rxs2 x1
          obtain ⟨ka, a, vs, f1, f2, f3⟩ := seqD_ok x2 ha
          obtain ⟨kb, b, ws, g1, g2, g3⟩ := seqD_ok x3 hb
          subst f1 g1
          exact ⟨ka, kb, a, b, vs, ws, rfl, sqV_mono r1.g f2, sqV_mono r1.g g2, p1 w1 _ H1 (.refl _) (wk_zip f2 g2 f3 g3 hl) r1⟩
        · exact p1.elim
      · exact p1.elim
    · exact p1.elim
end
end FL

set_option Elab.async false
set_option linter.all false
set_option maxRecDepth 100000
set_option maxHeartbeats 400000
namespace FL
open PySem PySem.W PySem.Calls PyProof.Rows PySem.HandSPX
/-! ### an own error: super().__init__(value); self.value = value -/
def iA (p1 p2 pd : Pos) : Arguments := { posonlyargs := [], args := [{ arg := "self", annotation := none, pos := p1 }, { arg := "value", annotation := none, pos := p2 }], vararg := none, kwonlyargs := [], kw_defaults := [], kwarg := none, defaults := [.Constant .none 0 pd] }
def iB (q1 q2 q3 q4 q5 q6 q7 q8 q9 qa : Pos) : List Stmt := [.Expr (.Call (.Attribute (.Call (.Name "super" q1) [] [] q2) "__init__" q3) [.Name "value" q4] [] q5) q6, .Assign [.Attribute (.Name "self" q7) "value" q8] (.Name "value" q9) qa]
def iS : Scope := { kind := .function, names := [(PySem.Str.ofString "self", .local), (PySem.Str.ofString "value", .local), (PySem.Str.ofString "__class__", .free), (PySem.Str.ofString "super", .globalImplicit)], isGenerator := false, isCoroutine := false, more := [] }
theorem iS_c : ∀ y ∈ iS.names, y.2 ≠ .cell := by decide +kernel
theorem iS_sup : iS.names.lookup ("super" : Str) = some .globalImplicit := by decide +kernel
theorem iS_cls : iS.names.lookup ("__class__" : Str) = some .free := by decide +kernel
theorem iS_self : iS.names.lookup ("self" : Str) = some .local := by decide +kernel
theorem iS_val : iS.names.lookup ("value" : Str) = some .local := by decide +kernel
theorem err_binds {s : Shared} {qual : Str} {p1 p2 pd : Pos} {body : List Stmt} {Td : Addr} {kV doc pm cdv ct : Value} {an : Option Addr} {cc : Addr} {oT : Obj} {n : Nat} {a v : Value} (hT : s.heap.get? Td = some oT) (hd : oT.data = .seq #[.none] n) :
    BindsTo s (ksFn "__init__" qual (iA p1 p2 pd) body iS (.ref Td) kV doc pm an cdv ct cc) ⟨[a, v], []⟩ [("self", a), ("value", v)] := by
  intro M A E Q h
  have e : ∃ k, bindArgs (ksFn "__init__" qual (iA p1 p2 pd) body iS (.ref Td) kV doc pm an cdv ct cc) ⟨[a, v], []⟩ = seqItems? (.ref Td) >>= k ∧ k (some #[.none]) = pure ([("self", a), ("value", v)] : List (Str × Value)) := ⟨_, rfl, by first | with_unfolding_all rfl | kernel_rfl⟩
  obtain ⟨k, e1, e2⟩ := e
  rw [e1]
  exact wpAny_bind (wpAny_seqItems hT hd (wpAny_of_eq e2 h))
theorem iS_l (a b : Value) : ∀ y ∈ ([("self", a), ("value", b)] : List (Str × Value)), iS.names.lookup y.1 = some .local := by
  intro y hy
  have e : y = (("self" : Str), a) ∨ y = (("value" : Str), b) := by simpa using hy
  rcases e with e | e
  · subst e
    show iS.names.lookup ("self" : Str) = some .local
    decide +kernel
  · subst e
    show iS.names.lookup ("value" : Str) = some .local
    decide +kernel
def veB : List Value := [.type "ValueError", .type "Exception", .type "BaseException", .type "object"]
theorem ev_sup (env : Env) (q1 q2 q4 : Pos) (apos pos : Pos) (h : (apos.endLine == pos.line) = true) : eval (.Call (.Attribute (.Call (.Name "super" q1) [] [] q2) "__init__" apos) [.Name "value" q4] [] pos) env = (do
          let ov ← attributeBase (.Call (.Name "super" q1) [] [] q2) "__init__" env (eval (.Call (.Name "super" q1) [] [] q2) env)
          standAt apos.atName
          let __x ← holding [ov] (getMethod ov "__init__" (do
            let b ← importBound (.Call (.Name "super" q1) [] [] q2) env
            pure (b.getD true)))
          match __x with
            | (f, first) => callWith pos f first (backTo pos (starEach [.Name "value" q4] env)) []) := by
  show (do
          let ov ← attributeBase (.Call (.Name "super" q1) [] [] q2) "__init__" env (eval (.Call (.Name "super" q1) [] [] q2) env)
          standAt apos.atName
          methodCall (.Call (.Name "super" q1) [] [] q2) "__init__" apos pos env ov 1 (backTo pos (starEach [.Name "value" q4] env)) []) = _
  have e : ∀ ov, methodCall (.Call (.Name "super" q1) [] [] q2) "__init__" apos pos env ov 1 (backTo pos (starEach [.Name "value" q4] env)) [] = (do
          let __x ← holding [ov] (getMethod ov "__init__" (do
            let b ← importBound (.Call (.Name "super" q1) [] [] q2) env
            pure (b.getD true)))
          match __x with
            | (f, first) => callWith pos f first (backTo pos (starEach [.Name "value" q4] env)) []) := fun ov => by
    have f : methodCallForm 1 (backTo pos (starEach [.Name "value" q4] env)) [] = true := rfl
    unfold methodCall methodCallPos
    rw [f, h]
    rfl
  simp only [e]

/-- what the written part says of such a class -/
structure ErrTxt (prog : Program) (K : Frag) (C fI : Addr) : Prop where
  cls : ∃ nm q N bs bm sn sub ab col dd k0 k1 k2 k3 k5, K.lookup C = some (excClassObj nm q C N bs bm true sn sub ab col dd k0 k1 k2 k3 k5 "ValueError.__new__") ∧ refsVE bm = true
  sa : findIn K (.ref C) "__setattr__" = some (some (.builtin "object.__setattr__"))
  ga : findIn K (.ref C) "__getattribute__" = some (some (.builtin "BaseException.__getattribute__"))
  gg : findIn K (.ref C) "__getattr__" = some none
  noN : findIn K (.ref C) "value" = some none
  iC : findIn K (.ref C) "__init__" = some (some (.ref fI))
  tC : typeIn K (.ref fI) = some (.type "function")
  kC : keepIn K (.ref C) = true
  exC : subIn K (.ref C) (.type "BaseException") = some true
  tyC : typeIn K (.ref C) = some (.type "type")
  hdC : hasDictIn K C = true
  xi : excInitIn K C veB "ValueError.__new__" = true
  sup : ks_superIn K C C "__init__" = some (some (.builtin "ValueError.__init__"))
  sV : subIn K (.ref C) (.type "ValueError") = some true
  nt : nsIn K cStatics "thirdparty.any" = some none
  mC : mroIn K C (.ref C) = some true
  fn : ∃ (oc : Value) (od : Option Addr) (Td : Addr) (oT : Obj) (nT : Nat) (kV doc pm : Value) (an : Option Addr) (cda : Addr) (ct : Value) (osl : Array (Option Value)) (p1 p2 q1 q2 q3 q4 q5 q6 q7 q8 q9 qa : Pos) (pd : Pos) (qual : Str) (cc : Addr) (ccl : Value) (cdd : Option Addr) (vs : Array Value) (ccs : Array (Option Value)) (file : Str) (tf : Tok) (cl : Value) (cld : Option Addr) (csl : Array (Option Value)),
    K.lookup fI = some ⟨oc, od, .func (ksFn "__init__" qual (iA p1 p2 pd) (iB q1 q2 q3 q4 q5 q6 q7 q8 q9 qa) iS (.ref Td) kV doc pm an (.ref cda) ct cc), osl⟩ ∧ codeIn K (.ref cda) qual = true ∧ K.lookup Td = some oT ∧ oT.data = .seq #[.none] nT ∧ (q3.endLine == q5.line) = true ∧
    K.lookup cda = some ⟨ccl, cdd, .fields vs, ccs⟩ ∧ vs[2]? = some (.str file tf) ∧ (prog.main.file == file) = true ∧ K.lookup cc = some ⟨cl, cld, .cell (some (.ref C)), csl⟩
  top : (prog.main.scope.names.lookup ("super" : Str)).isSome = false
/-- what __init__ leaves of a fresh exception at x -/
structure InitEnd (h h' : Heap) (x C dx t1 : Addr) (v : Value) : Prop where
  keep : ∀ b o, b ≠ x → h.get? b = some o → h'.get? b = some o
  obj : h'.get? x = some { cls := .ref C, dict := some dx, data := .fields #[.ref t1, .none, .none, .none, .bool false, .none] }
  dbig : h.objs.size ≤ dx
  dne : dx ≠ x
  ns : h'.Ns1 dx (fun y => if y = "value" then some v else none)
/-- what stands of a made error -/
structure OwnMade (h h' : Heap) (e C d : Addr) (v : Value) : Prop where
  keep : ∀ b o, h.get? b = some o → h'.get? b = some o
  new : h.objs.size ≤ e
  obj : ∃ oe vs, h'.get? e = some oe ∧ oe.cls = Value.ref C ∧ oe.dict = some d ∧ oe.data = .fields vs ∧ vs[1]? = some .none
  dbig : h.objs.size ≤ d
  dne : d ≠ e
  ns : h'.Ns1 d (fun y => if y = "value" then some v else none)
theorem one_sz (v : Value) : [v].length ≤ sizeLine := by
  rw [sizeLine_eq]
  exact (by decide : 1 ≤ 16777216)
section
variable {prog : Program} {w : World} {A : Around} {E : Value → Shared → Prop} {R : Result → Shared → Prop} {s : Shared} {K : Frag} {mg mb : Str → Option Value} {C fI : Addr}
theorem ldE {M : Model} {A : Around} {E : Value → Shared → Prop} {s : Shared} {name : Str} {scope : Scope} {L a : Addr} {cd : Value} {cc : Addr} {m : Str → Option Value} {x : Str} {pos : Pos} {v : Value} {Q : Value → Shared → Prop} (hn : s.heap.Ns L m) (hv : m x = some v) (h : Q v s)
    (hk : scope.kind = .function := by rfl) (hl : (ksEnv name scope L a cd cc).kindOf x = some .local := by rfl) (hd : (x == ("__debug__" : Str)) = false := by decide) :
    wpAny M A (eval (.Name x pos) (ksEnv name scope L a cd cc)) Q E s := wpAny_Name (wpAny_loadName_local hk hl hn hv h) hd
theorem err_init (T : ErrTxt prog K C fI) {x t0 : Addr} {v : Value} (X : K.In s.heap) (hlim : s.heap.NoLimit) (hg : s.heap.Ns mainGlobals mg) (hb : s.heap.Ns builtinsNs mb) (hms : mg "super" = none) (hbs : mb "super" = some (.type "super"))
    (hx : s.heap.get? x = some (excO C t0)) (hnx : K.lookup x = none) (hroom : A.depth < recursionLimit)
    (hq : ∀ h' tk dx t1, InitEnd s.heap h' x C dx t1 v → R (.ok (.ret .none)) { s with heap := h', toks := tk }) :
    codeAny (model prog w) A (.call (.ref fI) ⟨[.ref x, v], []⟩) R s := by
  obtain ⟨oc, od, Td, oT, nT, kV, doc, pm, an, cda, ct, osl, p1, p2, q1, q2, q3, q4, q5, q6, q7, q8, q9, qa, pd, qual, cc, ccl, cdd, vs, ccs, file, tf, cl, cld, csl, ho, hcd, hTd, hTs, hqq, hcda, hvs, hfile, hcell⟩ := T.fn
  obtain ⟨nm, q, N, bs, bm, sn, sub, ab, col, dd2, k0, k1, k2, k3, k5, hC, hbm⟩ := T.cls
  have hcl : clsIn K C = some { name := nm, bases := bs, mro := .ref C :: bm, ns := N, qualname := q, hasDict := true, slotNames := sn, subclasses := sub, abstract := ab, collection := col, hasDel := false } := by unfold clsIn; rw [hC] <;> rfl
  refine ks_codeAny_call_defAt (binds := [("self", .ref x), ("value", v)]) hroom (X _ _ ho) rfl hlim (codeRec_of X hcd) rfl (err_binds (X _ _ hTd) hTs) iS_c (iS_l _ _) (fun h₁ hn k => ?_) rfl rfl rfl
  have hxL : s.heap.objs.size ≠ x := Nat.ne_of_gt (Heap.lt_size hx)
  -- the exception is hidden in what stands
  have F1 : Fr (hideAll s.heap [x]) s.heap.objs.size h₁ (fun y => List.lookup y ([("self", .ref x), ("value", v)] : List (Str × Value)).reverse) := ⟨hn, fun b o e => k b o (of_hideAll _ e), Nat.le_of_eq (hideAll_size _ _)⟩
  have N1 : News (hideAll s.heap [x]) s.heap.objs.size h₁ [(x, excObj C t0 none .none)] := fun p hp => by
    have e : p = (x, excObj C t0 none .none) := by simpa using hp
    subst e
    exact ⟨k _ _ hx, hxL.symm, hideAll_none _ (by simp)⟩
  have Xg : K.In (hideAll s.heap [x]) := fun b o e => hideAll_get [x] (X _ _ e) (fun z => by
    have z' : b = x := by simpa using z
    subst z'
    rw [hnx] at e
    cases e)
  have X1 : K.In h₁ := X.keeps k
  have kS : ∀ (nm : Str), (ksEnv qual iS s.heap.objs.size fI (.ref cda) cc).kindOf nm = iS.names.lookup nm := fun nm => rfl
  refine ks_wpAt_execs_cons (ks_wpAt_Expr_any (ks_wpAt_MethodCall (pl := do
            let b ← importBound (.Call (.Name "super" q1) [] [] q2) (ksEnv qual iS s.heap.objs.size fI (.ref cda) cc)
            pure (b.getD true)) ?_ (ev_sup _ _ _ _ _ _ hqq)) rfl rfl)
  obtain ⟨oD, hD1, hD2⟩ : ∃ oD, h₁.get? C = some oD ∧ oD.data = .cls { name := nm, bases := bs, mro := .ref C :: bm, ns := N, qualname := q, hasDict := true, slotNames := sn, subclasses := sub, abstract := ab, collection := col, hasDel := false } := ⟨_, X1 _ _ hC, rfl⟩
  refine ks_wpAt_super_base (f := fI) (cc := cda) (ar := { arg := "self", annotation := none, pos := p1 }) iS_sup iS_cls (by decide +kernel) rfl (X1 _ _ ho) rfl rfl rfl (X1 _ _ hcda) rfl hvs hfile T.top ?_
  refine ks_loadName_global rfl iS_sup (Calls.loadGlobal_builtin (hg.keeps k) hms (hb.keeps k) hbs ⟨rfl, ?_⟩)
  refine wpAny_loadName_free (c := cc) rfl iS_cls rfl ⟨_, X1 _ _ hcell, rfl⟩ ?_
  refine wpAny_loadName_local rfl iS_self hn (show List.lookup ("self" : Str) ([("self", .ref x), ("value", v)] : List (Str × Value)).reverse = some (.ref x) by rfl) ?_
  refine ks_wpAny_isType_cls hD1 hD2 ⟨rfl, ?_⟩
  refine ks_wpAny_call_super hD1 hD2 (k _ _ hx) rfl (fun c e => by cases e) (looks_mroIn X1 T.mC) fun h₂ e₂ k₂ => ?_
  obtain ⟨F2, N2, l2⟩ := ks_newsPush (s := { heap := h₁, gens := s.gens, drawn := s.drawn, toks := s.toks + 2, os := s.os }) F1 N1 rfl e₂ k₂
  refine kxs_method kxs_ValueError F2 Xg N2 (x := x) (C := C) (D := C) (ox := excO C t0) (odx := none) (List.mem_cons_self ..) ⟨(N2 _ (List.mem_cons_of_mem _ (List.mem_cons_self ..))).1, rfl, rfl, trivial⟩ T.nt T.sup T.sV (by decide +kernel) fun u h₃ F3 N3 l3 => ?_
  refine kxs_callWith1 N3 (u := u) (i := "ValueError.__init__") (List.mem_cons_self ..) ?_ rfl rfl
  have nso : (h₁.objs.size : Addr) ≠ x := Ne.symm (Nat.ne_of_lt (l2 _ (List.mem_cons_self ..)))
  have nu : u ≠ x := Ne.symm (Nat.ne_of_lt (l3 (x, excObj C t0 none .none) (List.mem_cons_of_mem _ (List.mem_cons_self ..))))
  refine PyProof.Rows.spliced_more (ldE (v := v) F3.ns (by rfl) (PyProof.Rows.spliced_none ⟨kxs_at N3 (List.mem_cons_self ..), ?_⟩) rfl iS_val) rfl
  refine kxs_call F3 Xg N3 F.excBase_ValueError T.xi (List.mem_cons_self ..) (.tail nu (.tail nso (.head fun p hp => nomatch hp))) (one_sz v) fun t1 h₄ F4 N4 l4 => ?_
  have hx4 : h₄.get? x = some (excO C t1) := (N4 (x, excObj C t1 none .none) (by simp)).1
  have X4 : K.In h₄ := Xg.keeps F4.keep
  refine wpAt_of_wpAny (wpAny_execs_cons (plainObj_wpAny_Assign_Attribute ?_))
  refine ldE (v := v) F4.ns (by rfl) (ldE (v := .ref x) F4.ns (by rfl) ?_ rfl iS_self) rfl iS_val
  refine set_plain X4 (ox := excO C t1) (od := none) ⟨hx4, rfl, rfl, trivial⟩ T.sa ?_
  refine exc_osa X4 hx4 hcl (show refsVE (.ref C :: bm) = true from hbm) rfl T.noN (fun h₅ tk₅ dx k₅ dn dne hx₅ hn₅ => ?_)
  have old : ∀ b o, b ≠ x → s.heap.get? b = some o → h₅.get? b = some o := fun b o hb e => k₅ b o hb (F4.keep b o (hideAll_get [x] e (by simpa using hb)))
  have sz : s.heap.objs.size ≤ dx := by
    have q : s.heap.objs.size < h₄.objs.size := F4.ns.lt
    exact Nat.le_of_lt (Nat.lt_of_lt_of_le q dn)
  exact wpAny_execs_nil (hq h₅ tk₅ dx t1 ⟨old, hx₅, sz, dne, hn₅⟩)
theorem err_made (T : ErrTxt prog K C fI) {v : Value} (X : K.In s.heap) (hlim : s.heap.NoLimit) (hg : s.heap.Ns mainGlobals mg) (hb : s.heap.Ns builtinsNs mb) (hms : mg "super" = none) (hbs : mb "super" = some (.type "super")) (hroom : A.depth + 1 < recursionLimit)
    (hq : ∀ h' tk e d, OwnMade s.heap h' e C d v → R (.ok (.ret (.ref e))) { s with heap := h', toks := tk }) :
    codeAny (model prog w) A (.call (.ref C) ⟨[v], []⟩) R s := by
  obtain ⟨nm, q, N, bs, bm, sn, sub, ab, col, dd, k0, k1, k2, k3, k5, hC, hbm⟩ := T.cls
  obtain ⟨hp, g, dr, tk, os⟩ := s
  have k : ∀ b o, hp.get? b = some o → ((hp.push (kdv_tup [v])).push (excO C hp.objs.size)).get? b = some o := fun b o e => Heap.get?_push_of_some _ (Heap.get?_push_of_some _ e)
  have hget : ((hp.push (kdv_tup [v])).push (excO C hp.objs.size)).get? (hp.objs.size + 1) = some (excO C hp.objs.size) := by heap_get
  have hnx : K.lookup (hp.objs.size + 1) = none := by
    cases e : K.lookup (hp.objs.size + 1) with
    | none => rfl
    | some o =>
      have z : hp.get? (hp.objs.size + 1) = some o := X _ _ e
      exact absurd (Nat.lt_of_succ_lt (Heap.lt_size z)) (Nat.lt_irrefl _)
  refine call_own F.excBase_ValueError (fun X => refsVE_contains X bm hbm) (X _ _ hC) (looks_findIn X T.iC) (fun self => bind_fn X self T.tC) (one_sz v) ?_
  refine err_init (s := ⟨(hp.push (kdv_tup [v])).push (excO C hp.objs.size), g, dr, tk, os⟩) T (X.keeps k) (hlim.keeps k) (hg.keeps k) (hb.keeps k) hms hbs hget hnx ?_ fun h' tk' dx t1 ⟨k', hx, dn, dne, hns⟩ => ?_
  · show A.depth + 1 < recursionLimit
    exact hroom
  · have old : ∀ b o, hp.get? b = some o → h'.get? b = some o := fun b o e => k' b o (Nat.ne_of_lt (Nat.lt_succ_of_lt (Heap.lt_size e))) (k b o e)
    have z : hp.objs.size + 1 + 1 ≤ dx := by
      first
        | (simpa only [Heap.size_push] using dn)
        | exact dn
        | (have q := dn; rw [Heap.size_push, Heap.size_push] at q; exact q)
    exact ⟨rfl, hq h' tk' (hp.objs.size + 1) dx ⟨old, Nat.le_succ _, ⟨_, _, hx, rfl, rfl, rfl, rfl⟩, Nat.le_trans (Nat.le_trans (Nat.le_succ _) (Nat.le_succ _)) z, dne, hns⟩⟩
end
end FL

set_option Elab.async false
set_option linter.all false
set_option maxRecDepth 100000
set_option maxHeartbeats 400000
namespace FL
open PySem PySem.Spec PyProof.Rows L2
/-- an exception's class -/
structure ExK (K : PySem.W.Frag) (C : Addr) : Prop where
  ga : PySem.W.findIn K (.ref C) "__getattribute__" = some (some (.builtin "BaseException.__getattribute__"))
  gg : PySem.W.findIn K (.ref C) "__getattr__" = some none
  exC : PySem.W.subIn K (.ref C) (.type "BaseException") = some true
  hdC : PySem.W.hasDictIn K C = true
  cl : (PySem.W.clsIn K C).isSome = true
  ha : PySem.W.findIn K (.ref C) "__class__" = some (some (.builtin "object.__class__"))
  hn : PySem.W.specialIn K (.builtin "object.__class__") "__get__" = some (some (.builtin "getset_descriptor.__get__"))
  ht : PySem.W.takesIn K (.builtin "object.__class__") = some true
  hm : PySem.W.mroIn K C (.type "object") = some true
  noV : PySem.W.findIn K (.ref C) "value" = some none
/-- the exception at a, in a heap -/
theorem ex_inst {X : Cx} {pins : List (Addr × Obj)} {σ : L2.St} {H : Hp} {s : Shared} {a C : Addr} {d : Option Addr} (I : Inv X pins σ H s) (h : H a = some (ExA (.ref C) d a)) (hd : d = none ∨ ∃ dd fs, d = some dd ∧ H dd = some (.xd fs)) :
    ∃ oe od, PySem.W.InstAt s.heap a oe C od := by
  obtain ⟨⟨oe, e1, ⟨e2, e3⟩, vs, e4⟩, _, _⟩ := (show (∃ (oe : Obj), s.heap.get? a = some oe ∧ Zc (.ref C) d oe ∧ ∃ vs, oe.data = .fields vs) ∧ _ from I.hok a _ h)
  have no : PySem.W.notCls oe = true := by
    unfold PySem.W.notCls
    rw [e4]
  rcases hd with rfl | ⟨dd, fs, rfl, q⟩
  · exact ⟨oe, none, e1, e2, no, by rw [e3]; trivial⟩
  · obtain ⟨mA, hns, hr⟩ := (show ∃ mA, s.heap.Ns1 dd mA ∧ ∀ f : Str, RelO (List.lookup f fs) (mA f) from I.hok dd _ q)
    obtain ⟨od, ho, hl⟩ := lookIn_ns hns
    exact ⟨oe, some od, e1, e2, no, by rw [e3]; exact ho⟩
def rIsEx (K : PySem.W.Frag) : RN := fun xs H Q => ∃ (a D : Addr) (d : Option Addr) (c : V) (u : Value) (b : Bool), xs = [.ref a, c] ∧ ExK K D ∧ H a = some (ExA (.ref D) d a) ∧ (d = none ∨ ∃ dd fs, d = some dd ∧ H dd = some (.xd fs)) ∧ ClsV c u ∧ PySem.W.kitOne K (.ref D) u = some b ∧ Q (.bl b) H
theorem clsV_rel {c : V} {u v : Value} (h : ClsV c u) (r : RelV c v) : v = u := by
  cases h with
  | ty n => exact r
  | own C => exact r
theorem call_isEx {X : Cx} : CallR X (.builtin "isinstance") (rIsEx X.K) := by
  rintro pins s σ H xs us Q I r ⟨a, D, d, c, u, b, rfl, C, hx, hd, hc, e, q⟩
  obtain ⟨oe, od, J⟩ := ex_inst I hx hd
  cases r with
  | cons ra r =>
    cases r with
    | cons rb r =>
      cases r
      have e1 : _ = Value.ref a := ra
      have e2 := clsV_rel hc rb
      subst e1 e2
      exact PySem.W.kia_one (PySem.W.kitx_exc C.cl C.ga C.gg C.exC C.ha C.hn C.ht C.hm) I.kIn J e (fun z => nomatch z) fun tk => ⟨.bl b, H, I.kept fun _ _ z => z, rfl, q⟩
theorem callR_or {X : Cx} {f : Value} {r1 r2 : RN} (h1 : CallR X f r1) (h2 : CallR X f r2) : CallR X f (fun xs H Q => r1 xs H Q ∨ r2 xs H Q) := fun pins s σ H xs us Q I r h => h.elim (h1 pins s σ H xs us Q I r) (h2 pins s σ H xs us Q I r)
/-- what is known of the exceptions' classes -/
structure TxEx (T : Tx) (ex : Nat → Bool) : Prop where
  k : ∀ c, ex c = true → ExK T.K (T.ct c)
  is : ∀ c d, ex c = true → ex d = true → PySem.W.kitOne T.K (.ref (T.ct c)) (.ref (T.ct d)) = some (T.sub c d)
  ma : ∀ c d, ex c = true → ex d = true → PySem.W.exmOne T.K (.ref (T.ct c)) (.ref (T.ct d)) = some (T.sub c d)
section
variable {T : Tx} {X : Cx} {W : WX} {own ex : Nat → Bool}
def isEX (n : Nat) (sub : Nat → Nat → Bool) (own ex : Nat → Bool) (xs : List Xv) (s : Sto) : Res := match xs with
  | [.d (.exc c _ _), .d (.cls k)] => if ex c = true ∧ ex k = true then okB (sub c k) s else .stuck
  | xs => isiX n sub own xs s
theorem isEX_ok (K : TxOk T own) (E : TxEx T ex) : OpN T W (fun xs H Q => rIsEx T.K xs H Q ∨ rIsi T.K xs H Q) (isEX T.n T.sub own ex) := by
  intro st w xs vs s H Q hx r p
  unfold isEX at p
  split at p
  · rename_i c ns ws k
    split at p
    · rename_i h
      obtain ⟨v, u, rfl, e, f⟩ := rxs2 hx
      cases cls_v f
      have e' : R T w.G (.exc c ns ws) v := e
      unfold R at e'
      obtain ⟨a, d, fs, e1, e2, e3, e4, e5⟩ := e'
      subst e1
      refine .inl ⟨a, T.ct c, d, _, _, _, rfl, E.k c h.1, r.g _ _ e2, ?_, .own _, E.is c k h.1 h.2, okB_q p r⟩
      rcases e3 with e3 | ⟨dd, e3, e6⟩
      · exact .inl e3.1
      · exact .inr ⟨dd, fs, e3, r.g _ _ e6⟩
    · exact p.elim
  · exact .inr (isi_ok K st w _ vs s H Q hx r p)
end
end FL

set_option Elab.async false
set_option linter.all false
set_option maxRecDepth 100000
set_option maxHeartbeats 400000
namespace FL
open PySem PySem.Spec PyProof.Rows L2
theorem relO_val {v : V} {v' : Value} (r : RelV v v') (f : Str) : RelO (List.lookup f [(("value" : Str), v)]) (if f = "value" then some v' else none) := by
  by_cases hw : f = "value"
  · subst hw
    rw [if_pos rfl]
    have q : List.lookup ("value" : Str) [(("value" : Str), v)] = some v := by simp [List.lookup]
    rw [q]
    exact r
  · rw [if_neg hw]
    have qw : (f == ("value" : Str)) = false := by simpa using hw
    have q2 : List.lookup f [(("value" : Str), v)] = none := by simp [List.lookup, qw]
    rw [q2]
    trivial
theorem boot_super : bootBuiltins "super" = some (.type "super") := by first | rfl | decide +kernel | kernel_rfl
section
variable {X : Cx} {C fI : Addr}
/-- Err(e) -/
def tMkE (C : Addr) (ta : TA) : L2.St → Hp → XK → Prop := fun σ H Q => ta σ H fun vs H1 => ∃ v, vs = [v] ∧ ∀ d, H1 d = none → Q (.ref C) (some d) (upd H1 d (.xd [("value", v)]))
theorem pmk_err {a : Expr} {ta : TA} {x : Str} {p pos : Pos} {k : Nat} (T : ErrTxt X.prog X.K C fI) (hr : Room k X.A) (gC : X.mg x = some (.ref C)) (hsu : X.mg "super" = none) (ha : PA X [a] ta) (hg : Gl X x := by rfl) (hdb : (x == ("__debug__" : Str)) = false := by decide)
    (he : starEach (a :: []) X.env = (false, eval a X.env) :: starEach [] X.env := by rfl) (hpl : (backTo pos (starEach [] X.env)).any (·.1) = false := by rfl) :
    PMk X (.Call (.Name x p) [a] [] pos) (tMkE C ta) := by
  intro pins s σ H Q I h
  refine wpAny_Call_Name_kw (ld_glob I hg gC ?_ hdb)
  refine PySem.W.callWith_K (h₀ := X.base) I.ok.mod.kin T.kC (thn (ha.run pos pins s σ H _ I h) fun us s1 hh => ?_) he hpl
  obtain ⟨vs, H1, I1, r1, v, ev, q1⟩ := hh
  subst ev
  refine ⟨I1.kIn, ?_⟩
  cases r1 with
  | cons rv rn =>
    rename_i v' us'
    cases rn
    show wpAny _ _ (call (.ref C) [v']) _ _ _
    have hlim := I1.nolimit
    obtain ⟨mb, hb1, hb2⟩ := I1.mod.blt
    have hgl := I1.mod.glob.keeps I1.bk
    have hbl := hb1.keeps I1.bk
    obtain ⟨hp, g, dr, tk, os⟩ := s1
    refine wpAny_call (err_made T I1.kIn hlim hgl hbl hsu ((hb2 _ (by decide)).trans boot_super) (by have := hr.dp; omega) fun h' tk' e d M => ?_)
    show MkP X pins σ Q (.ref e) ⟨h', g, dr, tk', os⟩
    obtain ⟨oe, fv, hoe, hc, hd, hdat, h1⟩ := M.obj
    have hns := M.ns
    obtain ⟨G', g1, g2⟩ := restrict h' fun b => decide (b ≠ e)
    have gk : ∀ b, b ≠ e → G'.get? b = h'.get? b := fun b hb => g1 b (decide_eq_true hb)
    have ge : G'.get? e = none := g2 e (by simp)
    have old : ∀ b o, hp.get? b = some o → G'.get? b = some o := fun b o q => (gk b (Nat.ne_of_lt (Nat.lt_of_lt_of_le (Heap.lt_size q) M.new))).trans (M.keep b o q)
    have ob : ObjOk X.prog X.w (upd H1 d (.xd [(("value" : Str), v)])) G' d (.xd [(("value" : Str), v)]) :=
      ⟨_, hns.at (fun o q => (gk d M.dne).trans q), fun f => relO_val rv f⟩
    have J : Inv X pins σ (upd H1 d (.xd [(("value" : Str), v)])) ⟨G', g, dr, tk', os⟩ := I1.laid (t' := tk') old M.dbig ob
    refine ⟨e, oe, fv, ⟨G', g, dr, tk', os⟩, _, .ref C, some d, rfl, J, fun b o q => ?_, ge, hoe, ⟨hc, hd⟩, hdat, h1, ?_, rfl, I1.bare, raises_own T.exC T.tyC, q1 d (I1.hok.fresh M.dbig)⟩
    · by_cases hb : b = e
      · have q' : G'.get? b = some o := q
        rw [hb, ge] at q'; cases q'
      · exact (gk b hb).symm.trans q
    · rw [upd_ne (Ne.symm M.dne)]
      exact I1.hok.fresh M.new
end
section
variable {T : Tx} {X : Cx} {W : WX}
/-- raise Err(e) -/
def raiseS (c : Nat) (f : FE) : FS := fun ρ s => (f ρ s).bindS ρ fun v s1 => match v with
  | .d v => .exc (.exc c ["value"] [v]) ρ s1
  | _ => .stuck
theorem pfs_raise {a : Expr} {f : FE} {x : Str} {p pos pos2 : Pos} {k c : Nat} {C fI : Addr} (hc : X.calm = true) (E : ErrTxt X.prog X.K C fI) (hC : T.ct c = C) (hr : RoomG k X.A) (tk : Takes X W) (gC : X.mg x = some (.ref C)) (hsu : X.mg "super" = none) (ha : PF T X W a f) (hg : Gl X x := by rfl) (hdb : (x == ("__debug__" : Str)) = false := by decide)
    (he : starEach (a :: []) X.env = (false, eval a X.env) :: starEach [] X.env := by rfl) (hpl : (backTo pos (starEach [] X.env)).any (·.1) = false := by rfl) :
    PFS T X W (.Raise (some (.Call (.Name x p) [a] [] pos)) none pos2) (raiseS c f) :=
  PS.imp (ps_raise hc tk (pmk_err E hr.room gC hsu (pa_cons ha pa_nil he) hg hdb he hpl)) fun D st H ⟨w, ρ, s, e, q, p⟩ => rdE_mono (postS_bind e q p) fun u H1 ⟨w1, x, s1, l1, e1, x1, r1, p1⟩ => by
    refine ⟨u, rfl, fun d hd => ?_⟩
    split at p1
    · rename_i v
      obtain ⟨l2, r2⟩ := r1.laidG (o := .xd [("value", u)]) hd
      refine p1 _ (.ref C) (some d) st _ l2 ⟨c, ["value"], [v], [("value", u)], rfl, by rw [hC], .inr ⟨d, rfl, upd_same⟩, rfl, ?_⟩ (e1.mono l2) r2
      exact .one (RX.mono (x := .d v) l2 x1)
    · exact p1.elim
end
end FL

set_option Elab.async false
set_option linter.all false
set_option maxRecDepth 100000
set_option maxHeartbeats 400000
namespace FL
open PySem PySem.Spec PyProof.Rows L2
/-- an exception that stands in the heap is taken up among the objects that are followed -/
theorem inv_track {X : Cx} {pins : List (Addr × Obj)} {σ : L2.St} {H : Hp} {s : Shared} {a : Addr} {oe : Obj} {cls : Value} {d : Option Addr} {vs : Array Value} (I : Inv X pins σ H s) (h0 : X.s_0.heap.get? a = none) (ha : H a = none) (hl : a ≠ X.env.locals) (hp : ∀ p ∈ X.pn ++ pins, p.1 ≠ a)
    (he : s.heap.get? a = some oe) (hz : Zc cls d oe) (hd : oe.data = .fields vs) : Inv X pins σ (upd H a (ExA cls d a)) s := by
  have same : ∀ b o, H b = some o → upd H a (ExA cls d a) b = some o := fun b o e => by
    rw [upd_ne (fun z => by rw [z, ha] at e; cases e)]
    exact e
  refine ⟨I.ok, I.os, I.bare, ⟨I.base.keep, I.base.slot, fun b o hb hH hx => ?_, I.base.there, fun b xs q => same _ _ (I.base.tups b xs q), fun b o u q => same _ _ (I.base.frzs b o u q), fun b ps q => ?_⟩, I.loc, I.cell, ?_, fun x c hx => ?_, fun p hm => ?_, fun b o q => ?_, I.len⟩
  · have hb' : b ≠ a := fun z => by
      rw [z, h0] at hb
      cases hb
    rw [upd_ne hb']
    exact I.base.free b o hb hH hx
  · obtain ⟨more, k⟩ := I.base.tbls b ps q
    exact ⟨more, same _ _ k⟩
  · rw [upd_ne (Ne.symm hl)]
    exact I.free
  · have hc : c ≠ a := fun z => by
      obtain ⟨v, o, k1, k2⟩ := I.cell x c hx
      rw [z, he] at k1
      cases k1
      rw [hd] at k2
      cases k2
    rw [upd_ne hc]
    exact I.freeC x c hx
  · obtain ⟨k1, k2, k3⟩ := I.pin p hm
    refine ⟨k1, ?_, k3⟩
    rw [upd_ne (hp p hm)]
    exact k2
  · by_cases hb : b = a
    · subst hb
      rw [upd_same] at q
      cases q
      exact ⟨⟨oe, he, hz, vs, hd⟩, ⟨oe, he⟩, fun h1 h2 ⟨o1, q1, q2, q3⟩ k => ⟨o1, k _ q1, q2, q3⟩⟩
    · rw [upd_ne hb] at q
      exact (I.hok b o q).stay (fun _ _ _ z => z) (fun c q => same _ _ q) (fun c xs q => same _ _ q)
/-- try .. except C as n: suite; the exception is followed behind it -/
def wKeep (K : PySem.W.Frag) (c : Value) (i : Nat) (ts : Addr → Value → Option Addr → TS) (Wout : WX) (D : Ends) : WX := fun cls d σ H => ∃ b, PySem.W.exmOne K cls c = some b ∧
  (b = true → ∀ a, H a = none → ts a cls d { nx := fun σ' H' => D.nx (σ'.set i none) (upd H' a (ExA cls d a)), rt := fun v H' => D.rt v (upd H' a (ExA cls d a)), bk := fun σ' H' => D.bk (σ'.set i none) (upd H' a (ExA cls d a)), ct := fun σ' H' => D.ct (σ'.set i none) (upd H' a (ExA cls d a)) } (σ.set i (some (.ref a))) H) ∧ (b = false → Wout cls d σ H)
theorem ps_try_keep {X : Cx} {x n : Str} {c : Value} {i : Nat} {body suite : List Stmt} {b₀ : Stmt} {np pos pos' : Pos} {tb : WX → TS} {ts : Addr → Value → Option Addr → TS} {Wout : WX} (hs : X.stack = X.env :: X.outer) (hf : X.env.frame = some X.env.locals) (hex : X.ex = []) (hN : X.N.Nodup) (hi : X.N[i]? = some n) (hln : X.env.kindOf n = some .local)
    (hc : Names X x c) (tk : Takes X Wout) (hb : ∀ (W : WX) (pn : List (Addr × Obj)) (xe : Value → Shared → Prop), Takes (X.tr pn xe) W → PassesOwn (model X.prog X.w) X.A X.env xe → PSs (X.tr pn xe) body (tb W))
    (hsu : ∀ (a : Addr) (oe : Obj) (cls : Value) (d : Option Addr) (pn : List (Addr × Obj)), Zc cls d oe → (∃ vs, oe.data = .fields vs) → PSs (X.suite a ((a, oe) :: pn)) (b₀ :: suite) (ts a cls d)) :
    PS X (.Try body [.ExceptHandler (some (.Name x np)) (some n) (b₀ :: suite) pos'] [] [] pos) (fun D σ H => tb (wKeep X.K c i ts Wout D) D σ H) := ⟨fun pins s σ H D I h => by
  have ok := I.ok
  have hfr : X.A.frames = some (X.env :: X.outer) := by rw [ok.frames, hs]
  refine wpAny_Try_except (wpAny_mono ((hb (wKeep X.K c i ts Wout D) (X.pn ++ pins) (fun e s₁ => wpAny (model X.prog X.w) X.A (noteFrame e X.env) (fun _ s₂ => wpAny (model X.prog X.w) X.A (setFlight e none) (fun _ s₃ => wpAny (model X.prog X.w) X.A (handleBy e X.env [.ExceptHandler (some (.Name x np)) (some n) (b₀ :: suite) pos']) (SP X pins D) X.xe s₃) X.xe s₂) X.xe s₁) ?tk PassesOwn.looking).run [] s σ H D (I.toTry _) h) (fun f s1 hsp => ?_) (fun e s1 he => he))
  case tk =>
    rintro u s' ⟨a, B, sI, pins', σ', H', cls, d, rfl, J', nb, up, sky, na, os, ag, b, hb1, hyes, hno⟩
    have J := J'.ofTry ok
    have sky' : Sky B (X.env :: X.outer) a (Zc cls d) X.env.locals s'.heap := by
      have q := sky
      rw [show (X.tr (X.pn ++ pins) _).stack = X.stack from rfl, hs] at q
      exact q
    refine Sky.land Zc.steady hfr hf sky' fun h3 fl3 up3 => ?_
    have J3 := J.landed (s' := { heap := h3, gens := s'.gens, drawn := s'.drawn, toks := s'.toks, os := s'.os }) nb fl3.1 (up.trans up3) os ag
    obtain ⟨oe3, vs3, he3, hz3, hd3⟩ := fl3.there
    have nfr : a ∉ frs (X.env :: X.outer) := fun hm => by
      obtain ⟨_, o', e', hnf⟩ := fl3.2.2.1.mem hm
      rw [he3] at e'
      cases e'
      exact hnf vs3 hd3
    have nL : a ≠ X.env.locals := fun z => nfr (List.mem_filterMap.mpr ⟨X.env, List.mem_cons_self, by rw [hf, z]⟩)
    have nF : a ∉ X.fs := fun hm => by
      obtain ⟨e, he, q⟩ := List.mem_filterMap.mp hm
      exact nfr (List.mem_filterMap.mpr ⟨e, List.mem_cons_of_mem _ he, q⟩)
    -- the exception is younger than the frame
    have nI : sI.heap.get? a = none := by
      cases z : sI.heap.get? a with
      | none => rfl
      | some o =>
        have q := nb a o z (by rw [show (X.tr (X.pn ++ pins) _).stack = X.stack from rfl, hs]; exact nfr)
        rw [fl3.2.1] at q
        cases q
    have n0 : X.s_0.heap.get? a = none := by
      cases z : X.s_0.heap.get? a with
      | none => rfl
      | some o =>
        obtain ⟨o', q⟩ := J.base.there a o z (by rw [hex]; exact List.not_mem_nil)
        rw [nI] at q
        cases q
    have nP : ∀ p ∈ X.pn ++ pins, p.1 ≠ a := fun p hm z => by
      have q := (J.pin p hm).1
      rw [z, nI] at q
      cases q
    have S3 := J3.suite he3 hd3 na nL nF
    refine wpAny_handleBy_cons (codeAny_handlers_test ?_) (fun q => by cases q)
    have LT : PySem.W.Looks (model X.prog X.w) h3 (typeOf (.ref a)) cls := fun A Q E s k q => wpAny_typeOf_ref (k a oe3 he3) (by rw [hz3.1]; exact q)
    have LM := PySem.W.exm_one J3.kIn LT hb1
    have test : ∀ {Q : Value → Shared → Prop} {E : Value → Shared → Prop}, Q c { heap := h3, gens := s'.gens, drawn := s'.drawn, toks := s'.toks, os := s'.os } → wpAny (model X.prog X.w) (X.A.mark (some (.ref a))) (eval (.Name x np) X.env) Q E { heap := h3, gens := s'.gens, drawn := s'.drawn, toks := s'.toks, os := s'.os } := fun {Q E} q => by
      obtain ⟨hg, hdbg, hm | ⟨hm, hv, hnn⟩⟩ := hc
      · exact ld_glob S3 hg hm q hdbg
      · exact ld_blt S3 hg hm hv q hnn hdbg
    refine test (LM.here ?_)
    cases b with
    | false =>
      refine wpAny_handleBy_nil ?_
      obtain ⟨k1, k2, k3, oe, vs, t1, oT, ts', he, hz, hd, h1, hr⟩ := id fl3
      refine wpAny_bind (wpAny_field he hd h1 ?_)
      rw [if_neg (by simp)]
      refine wpAny_bind ?_
      rw [hf]
      exact HandSPX.setFlight_upZ fl3 fun h4 hh4 up4 => wpAny_throw (tk (.ref a) _ ⟨a, B, sI, pins, σ', H', cls, d, rfl, J, nb, (up.trans up3).trans up4, .inr (.inr (by rw [hs]; exact hh4)), na, os, ag, hno rfl⟩)
    | true =>
      refine codeAny_handlers_suite_as (HandSPX.lands_againZ fl3 fun h4 fl4 up4 => ?_)
      have J4 := J.landed (s' := { heap := h4, gens := s'.gens, drawn := s'.drawn, toks := s'.toks, os := s'.os }) nb fl4.1 ((up.trans up3).trans up4) os ag
      obtain ⟨oe4, vs4, he4, hz4, hd4⟩ := fl4.there
      have S4 := J4.suite he4 hd4 na nL nF
      refine store_ok (X := X.suite a ((a, oe4) :: (X.pn ++ pins))) (v := .ref a) S4 hN hi (.inl hln) rfl (fun s5 S5 => wpAny_mono ((hsu a oe4 cls d (X.pn ++ pins) hz4 ⟨vs4, hd4⟩).run [] s5 (σ'.set i (some (.ref a))) H' _ S5 (hyes rfl a na)) (fun f s6 hsp => ?_) (fun _ _ z => z.elim)) (.inr hln)
      have end_ : ∀ {σ6 : L2.St} {H6 : Hp} {Q : Unit → Shared → Prop} {E : Value → Shared → Prop}, Inv (X.suite a ((a, oe4) :: (X.pn ++ pins))) [] σ6 H6 s6 → (∀ s7, Inv X pins (σ6.set i none) (upd H6 a (ExA cls d a)) s7 → Q () s7) → wpAny (model X.prog X.w) X.A (do
          bindName X.env n Value.none
          unbindBehindTheSuite X.env n pos') Q E s6 := fun {σ6 H6 Q E} S6 hq => by
        have J6 := S6.unsuite ok
        obtain ⟨k1, k2, _⟩ := S6.pin (a, oe4) (List.mem_append_left _ List.mem_cons_self)
        exact gone_ok (inv_track J6 n0 k2 nL nP k1 hz4 hd4) hN hi hln hq
      cases f with
      | next =>
        obtain ⟨σ6, H6, S6, q6⟩ := hsp
        exact end_ S6 fun s7 J7 => ⟨_, _, J7, q6⟩
      | brk =>
        obtain ⟨σ6, H6, S6, q6⟩ := hsp
        exact end_ S6 fun s7 J7 => ⟨_, _, J7, q6⟩
      | cont =>
        obtain ⟨σ6, H6, S6, q6⟩ := hsp
        exact end_ S6 fun s7 J7 => ⟨_, _, J7, q6⟩
      | ret u =>
        obtain ⟨v6, σ6, H6, S6, r6, q6⟩ := hsp
        exact end_ S6 fun s7 J7 => ⟨v6, _, _, J7, r6, q6⟩
  cases f with
  | next =>
    obtain ⟨σ', H', J', q⟩ := hsp
    exact wpAny_execs_nil ⟨σ', H', J'.ofTry ok, q⟩
  | brk =>
    obtain ⟨σ', H', J', q⟩ := hsp
    exact ⟨σ', H', J'.ofTry ok, q⟩
  | cont =>
    obtain ⟨σ', H', J', q⟩ := hsp
    exact ⟨σ', H', J'.ofTry ok, q⟩
  | ret u =>
    obtain ⟨v, σ', H', J', r, q⟩ := hsp
    exact ⟨v, σ', H', J'.ofTry ok, r, q⟩⟩
section
variable {T : Tx} {X : Cx} {W : WX} {ex : Nat → Bool}
theorem upd_held {w : Wd} {s : Sto} {H : Hp} (r : RS T w s H) {a : Addr} (h : H a = none) (o : HO) : Le w { w with G := upd w.G a o } ∧ RS T { w with G := upd w.G a o } s (upd H a o) := r.laidG h o
theorem RE.setN {w : Wd} {ρ : Env'} {st : L2.St} {i : Nat} {v : Option V} (e : RE T w ρ st) : RE T w (ρ.set i none) (st.set i v) := by
  refine ⟨by simp [e.len], fun j y q => ?_⟩
  by_cases hj : i = j
  · subst hj
    have il : i < ρ.length := by
      have := (List.getElem?_eq_some_iff.mp q).1
      simpa using this
    rw [List.getElem?_set_self il] at q
    cases q
  · rw [List.getElem?_set_ne hj] at q ⊢
    exact e.at_ j y q
/-- try: body; except C as n: y = n -/
def tryKeepS (sub : Nat → Nat → Bool) (ex : Nat → Bool) (k i j : Nat) (b : FS) : FS := fun ρ s => match b ρ s with
  | .exc (.exc c ns vs) r s1 => if ex c = true ∧ i < r.length then (if sub c k = true then .nx ((((r.set i none).set j (some (.d (.exc c ns vs)))).set i none)) s1 else .exc (.exc c ns vs) r s1) else .stuck
  | .exc _ _ _ => .stuck
  | o => o
theorem pfs_tryKeep {x n y : Str} {k i j : Nat} {body : List Stmt} {np p1 p2 p3 pos pos' : Pos} {b : FS} (E : TxEx T ex) (hK : X.K = T.K) (hs : X.stack = X.env :: X.outer) (hf : X.env.frame = some X.env.locals) (hex : X.ex = []) (hfn : ∀ z, X.fn z = true) (tk : Takes X W) (hk : ex k = true) (hmc : X.mg x = some (.ref (T.ct k)))
    (hN : X.N.Nodup) (hb : ∀ (W' : WX) (pn : List (Addr × Obj)) (xe : Value → Shared → Prop), Takes (X.tr pn xe) W' → PassesOwn (model X.prog X.w) X.A X.env xe → PFSs T (X.tr pn xe) W' body b)
    (hi : X.N[i]? = some n := by rfl) (hj : X.N[j]? = some y := by rfl) (hij : i ≠ j := by decide) (hln : X.env.kindOf n = some .local := by rfl) (hly : X.env.scope.names.lookup y = some .local := by rfl) (hvn : Vis X.env.scope n := by exact .inl rfl) (hg : Gl X x := by rfl) (hdb : (x == ("__debug__" : Str)) = false := by decide) (hdn : (n == ("__debug__" : Str)) = false := by decide) (hdc : (n == ("__classdict__" : Str)) = false := by decide)
    (hsw : swapsWith (.Name n p2) (some (.Name y p1)) p3.line X.env = pure false := by rfl) :
    PFS T X W (.Try body [.ExceptHandler (some (.Name x np)) (some n) [.Assign [.Name y p1] (.Name n p2) p3] pos'] [] [] pos) (tryKeepS T.sub ex k i j b) := by
  refine PS.imp (ps_try_keep (tb := fun W' => rdS T W' b) (Wout := W) hs hf hex hN hi hln ⟨hg, hdb, .inl hmc⟩ tk hb (ts := fun a cls d => tAsg (tVar i) (gName j)) fun a oe cls d pn hz hd => pss_one (ps_set (X := X.suite a ((a, oe) :: pn)) (i := j) hN hj (.inl hly) (pe_var (X := X.suite a ((a, oe) :: pn)) hi hvn hdn hdc) hsw (.inl (hfn y)))) fun D st H ⟨w, ρ, s, e, q, p⟩ => ?_
  refine ⟨w, ρ, s, e, q, ?_⟩
  unfold tryKeepS at p
  revert p
  cases b ρ s with
  | nx r s1 => exact fun p => p
  | rt v s1 => exact fun p => p
  | bk r s1 => exact fun p => p
  | ct r s1 => exact fun p => p
  | stuck => exact fun p => p
  | exc x0 r s1 =>
    intro p w1 cls d st1 H1 l1 xe e1 r1
    obtain ⟨c, ns, xs, fs, rfl, rfl, h3, h4, h5⟩ := xe
    dsimp only at p
    split at p
    · rename_i hc
      refine ⟨T.sub c k, by rw [hK]; exact E.ma c k hc.1 hk, fun hb a ha => ?_, fun hb => ?_⟩
      · rw [if_pos hb] at p
        have il : i < st1.length := by
          rw [← e1.len]
          exact hc.2
        refine ⟨.ref a, by rw [List.getElem?_set_self il], ?_⟩
        obtain ⟨l2, r2⟩ := upd_held r1 ha (ExA (.ref (T.ct c)) d a)
        refine p _ _ _ (l1.trans l2) (RE.setN (RE.set (RE.setN (e1.mono l2)) j ?_)) r2
        show R T _ (.exc c ns xs) _
        unfold R
        refine ⟨a, d, fs, rfl, upd_same, ?_, h4, Rs.mono l2.g h5⟩
        rcases h3 with h3 | ⟨dd, h3, h6⟩
        · exact .inl h3
        · exact .inr ⟨dd, h3, l2.g _ _ h6⟩
      · rw [if_neg (by rw [hb]; exact Bool.false_ne_true)] at p
        exact p w1 _ _ st1 H1 l1 ⟨c, ns, xs, fs, rfl, rfl, h3, h4, h5⟩ e1 r1
    · exact p.elim
end
end FL

set_option Elab.async false
set_option linter.all false
set_option maxRecDepth 100000
set_option maxHeartbeats 400000
namespace FL
open PySem PySem.Spec PyProof.Rows L2
section
variable {T : Tx} {X : Cx} {W : WX} {ex : Nat → Bool}
/-! ### a held exception's field -/
def getN : List Str → List D → Str → Option D
  | n :: ns, v :: vs, f => if f = n then some v else getN ns vs f
  | _, _, _ => none
theorem getN_ok {G : Hp} {f : Str} : ∀ {ns : List Str} {xs : List D} {fs : List (Str × V)} {x : D}, fs.map (·.1) = ns → Rs T G xs (fs.map (·.2)) → getN ns xs f = some x → ∃ v, fs.lookup f = some v ∧ R T G x v
  | n :: ns, y :: ys, [], x, h1, _, _ => by cases h1
  | n :: ns, y :: ys, (m, u) :: fs, x, h1, h2, h3 => by
    have h1' : m = n ∧ fs.map (·.1) = ns := by simpa using h1
    obtain ⟨rfl, h1'⟩ := h1'
    unfold Rs at h2
    obtain ⟨v, r, e1, e2, e3⟩ := h2
    cases e1
    unfold getN at h3
    by_cases hf : f = m
    · rw [if_pos hf] at h3
      cases h3
      exact ⟨u, by simp [List.lookup, hf], e2⟩
    · rw [if_neg hf] at h3
      obtain ⟨v, k1, k2⟩ := getN_ok (ns := ns) h1' e3 h3
      have hf' : (f == m) = false := by simpa using hf
      exact ⟨v, by simp [List.lookup, hf', k1], k2⟩
  | [], _, _, _, _, _, h => by simp [getN] at h
  | _ :: _, [], _, _, _, _, h => by simp [getN] at h
def excF (ex : Nat → Bool) (n : Str) (f : FE) : FE := fun ρ s => (f ρ s).bind fun x s1 => match x with
  | .d (.exc c ns vs) => if ex c = true then (match getN ns vs n with | some v => .ok (.d v) s1 | none => .stuck) else .stuck
  | _ => .stuck
theorem pf_excF {e : Expr} {f : FE} {pos : Pos} (E : TxEx T ex) (hK : X.K = T.K) (he : PF T X W e f) (hb : attributeBase e "value" X.env (eval e X.env) = eval e X.env := by rfl) : PF T X W (.Attribute e "value" pos) (excF ex "value" f) := ⟨fun pins s σ H Q I h => by
  refine attr_of hb (thn (he.run pins s σ H (fun u H1 => ∃ (a C dd : Addr) (fs : List (Str × V)) (v : V), u = .ref a ∧ ExK T.K C ∧ H1 a = some (ExA (.ref C) (some dd) a) ∧ H1 dd = some (.xd fs) ∧ fs.lookup ("value" : Str) = some v ∧ Q v H1) I ?_) fun u s1 hh => ?_)
  · obtain ⟨w, ρ, s0, e0, q, p⟩ := h
    refine rdE_mono (postE_bind e0 q p) fun u H1 ⟨w1, x, s1, l1, e1, x1, r1, p1⟩ => ?_
    split at p1
    · rename_i c ns vs
      split at p1
      · rename_i hc
        split at p1
        · rename_i v hv
          have x1' : R T w1.G (.exc c ns vs) u := x1
          unfold R at x1'
          obtain ⟨a, d, fs, k1, k2, k3, k4, k5⟩ := x1'
          obtain ⟨v', hl, rv⟩ := getN_ok k4 k5 hv
          rcases k3 with ⟨_, k3⟩ | ⟨dd, k3, k6⟩
          · rw [k3] at hv
            simp [getN] at hv
          · subst k3
            exact ⟨a, _, dd, fs, v', k1, E.k c hc, r1.g _ _ k2, r1.g _ _ k6, hl, postE_ok p1 rv r1⟩
        · exact p1.elim
      · exact p1.elim
    · exact p1.elim
  · obtain ⟨x, H1, I1, rx, a, C, dd, fs, v, rfl, K, h1, h2, h3, q⟩ := hh
    obtain rfl : u = Value.ref a := rx
    obtain ⟨⟨oe, e1, ⟨e2, e3⟩, vs, e4⟩, _, _⟩ := (show (∃ (oe : Obj), s1.heap.get? a = some oe ∧ Zc (.ref C) (some dd) oe ∧ ∃ vs, oe.data = .fields vs) ∧ _ from I1.hok a _ h1)
    obtain ⟨mA, hns, hr⟩ := (show ∃ mA, s1.heap.Ns1 dd mA ∧ ∀ f : Str, RelO (List.lookup f fs) (mA f) from I1.hok dd _ h2)
    obtain ⟨od, ho, hl⟩ := lookIn_ns hns
    obtain ⟨u, hu, ru⟩ := RelO.some_of (v := v) (o := mA "value") (by rw [← h3]; exact hr "value")
    have J : PySem.W.InstAt s1.heap a oe C (some od) := ⟨e1, e2, by unfold PySem.W.notCls; rw [e4], by rw [e3]; exact ho⟩
    rw [← hK] at K
    exact HandSPX.exc_get I1.kIn J K.ga K.gg K.exC (PySem.W.findObj_own K.hdC K.noV rfl (by rw [hl, hu])) (handed_of ru) ⟨v, H1, I1.tok _, ru, q⟩⟩
/-! ### xs.append(e), xs[i] = e -/
def appF (f : FE) (g : FA) : FE := fun ρ s => (f ρ s).bind fun x s1 => match x with
  | .ref i => match s1[i]? with
    | some (.lst _) => (g ρ s1).bind fun ys s2 => match ys with
      | [.d y] => match s2[i]? with
        | some (.lst xs) => if xs.length < 1000000 then .ok (.d .non) (s2.set i (.lst (xs ++ [y]))) else .stuck
        | _ => .stuck
      | _ => .stuck
    | _ => .stuck
  | _ => .stuck
theorem pf_append {o e : Expr} {f : FE} {g : FA} {apos cpos : Pos} (hK : X.K = T.K) (ho : PF T X W o f) (ha : PFA T X W [e] g) (hb : attributeBase o "append" X.env (eval o X.env) = eval o X.env := by rfl)
    (h1 : ((((backTo cpos (starEach [e] X.env)).all fun x => !x.fst) && (backToKw cpos (keywordEach [] X.env)).all fun x => x.fst.isSome) && decide (([e].length + ([] : List Keyword).length + if ([] : List Keyword).isEmpty = true then 0 else 1) < 30)) = true := by rfl) (h2 : (apos.endLine == cpos.line) = true := by rfl)
    (h3 : starEach [e] X.env = (false, eval e X.env) :: starEach [] X.env := by rfl) (h4 : (backTo cpos (starEach [] X.env)).any (·.1) = false := by rfl) : PF T X W (.Call (.Attribute o "append" apos) [e] [] cpos) (appF f g) :=
  PE.imp (pe_bm PySem.F.plainAttrs_list PySem.F.slot_list_append PySem.F.type_list_append mt_append ho ha hb h1 h2 h3 h4) fun st H Q ⟨w, ρ, s, e0, q, p⟩ => rdE_mono (postE_bind e0 q p) fun u H1 ⟨w1, x, s1, l1, e1, x1, r1, p1⟩ => by
    split at p1
    · rename_i i
      split at p1
      · rename_i xs0 hs
        obtain ⟨a, k1, k2⟩ := x1
        subst k2
        obtain ⟨ho, m1, ⟨vs, m2, m3⟩, m4, m5⟩ := r1.live i _ a hs (by simp) k1
        subst m2
        refine ⟨.inl ⟨rfl, vs, .of m1⟩, rdA_mono (postE_bindL e1 r1 p1) fun us H2 ⟨w2, ys, s2, l2, e2, x2, r2, p2⟩ => ?_⟩
        split at p2
        · rename_i y
          split at p2
          · rename_i xs hs2
            split at p2
            · rename_i hl
              obtain ⟨v, rfl, x3⟩ := rxs1 x2
              have k3 := l2.at k1
              obtain ⟨ho2, n1, ⟨vs2, n2, n3⟩, n4, n5⟩ := r2.live i _ a hs2 (by simp) k3
              subst n2
              have x3' : R T w2.G y v := x3
              exact ⟨a, vs2, v, rfl, rfl, n1, by rw [← n3.length, sizeLine_eq]; omega, postE_ok p2 rX_non (r2.write hs2 (by simp) k3 ⟨_, rfl, n3.append (.one x3')⟩)⟩
            · exact p2.elim
          · exact p2.elim
        · exact p2.elim
      · exact p1.elim
    · exact p1.elim
def setIxS (fv fo fi : FE) : FS := fun ρ s => (fv ρ s).bindS ρ fun v s1 => (fo ρ s1).bindS ρ fun o s2 => (fi ρ s2).bindS ρ fun k s3 => match v with
  | .d v => match o with
    | .ref i => match k with
      | .d (.int k) => match s3[i]? with
        | some (.lst xs) => match ixN xs.length k with
          | some j => .nx ρ (s3.set i (.lst (xs.set j v)))
          | none => .stuck
        | _ => .stuck
      | _ => .stuck
    | _ => .stuck
  | _ => .stuck
theorem pfs_setIx {o ix e : Expr} {fv fo fi : FE} {p1 pos : Pos} (he : PF T X W e fv) (ho : PF T X W o fo) (hi : PF T X W ix fi)
    (ha : ∀ v, assign (.Subscript o ix p1) X.env v = (do
      let ov ← holding [v] (eval o X.env)
      let iv ← holding [v, ov] (eval ix X.env)
      standAt p1
      holding [v, ov, iv] (setItem ov iv v)
      release [v, ov, iv] []) := by exact fun _ => rfl)
    (hs : swapsWithSole [.Subscript o ix p1] e pos.line X.env = pure false := by rfl) (hw : swappedStores [.Subscript o ix p1] e X.env = pure none := by rfl) (h1 : (assignEach [.Subscript o ix p1] X.env).map (·.2) = [assign (.Subscript o ix p1) X.env] := by rfl) :
    PFS T X W (.Assign [.Subscript o ix p1] e pos) (setIxS fv fo fi) :=
  PS.imp (ps_asg he (pg_sub ho hi set_list ha) hs hw h1) fun D st H ⟨w, ρ, s, e0, q, p⟩ => rdE_mono (postS_bind e0 q p) fun u H1 ⟨w1, v, s1, l1, e1, x1, r1, p1⟩ =>
    rdE_mono (postS_bind e1 r1 p1) fun u2 H2 ⟨w2, o', s2, l2, e2, x2, r2, p2⟩ => rdE_mono (postS_bind e2 r2 p2) fun u3 H3 ⟨w3, k', s3, l3, e3, x3, r3, p3⟩ => by
      cases v with
      | ref _ => exact p3.elim
      | d v =>
        cases o' with
        | d _ => exact p3.elim
        | ref i =>
          dsimp only at p3
          split at p3
          · rename_i k
            split at p3
            · rename_i xs hs3
              split at p3
              · rename_i j hj
                obtain ⟨a, k1, k2⟩ := x2
                subst k2
                cases X_int x3
                have k3 := l3.at k1
                obtain ⟨ho2, n1, ⟨vs2, n2, n3⟩, n4, n5⟩ := r3.live i _ a hs3 (by simp) k3
                subst n2
                have x1' : R T w3.G v u := R.mono (l2.trans l3).g x1
                exact ⟨a, vs2, k, j, rfl, rfl, n1, by rw [← n3.length]; exact hj, p3 w3 st _ (.refl _) e3 (r3.write hs3 (by simp) k3 ⟨_, rfl, n3.set x1' j⟩)⟩
              · exact p3.elim
            · exact p3.elim
          · exact p3.elim
end
end FL

set_option Elab.async false
set_option linter.all false
set_option maxRecDepth 100000
set_option maxHeartbeats 400000
namespace FL
open PySem PySem.Spec PyProof.Rows L2
/-! ### calls by keywords -/
def permL {α : Type} (pm : List Nat) (xs : List α) : List α := pm.filterMap (xs[·]?)
theorem vals_perm {vs : List V} {us : List Value} (h : Vals vs us) : ∀ pm : List Nat, Vals (permL pm vs) (permL pm us)
  | [] => .nil
  | i :: pm => by
    have ih := vals_perm h pm
    have hl := h.length
    unfold permL at ih ⊢
    rw [List.filterMap_cons, List.filterMap_cons]
    cases e : vs[i]? with
    | none =>
      have e2 : us[i]? = none := by
        rw [List.getElem?_eq_none_iff] at e ⊢
        omega
      rw [e2]
      exact ih
    | some v =>
      obtain ⟨u, e2, r⟩ := Vals.get h e
      rw [e2]
      exact .cons r ih
section
variable {T : Tx}
theorem RXs.get {w : Wd} : ∀ {xs : List Xv} {vs : List V} {i : Nat} {x : Xv}, RXs T w xs vs → xs[i]? = some x → ∃ v, vs[i]? = some v ∧ RX T w x v
  | [], _, _, _, _, h => by simp at h
  | d :: ds, vs, 0, x, ⟨v, r, e1, e2, e3⟩, h => by
    subst e1
    simp at h
    subst h
    exact ⟨v, rfl, e2⟩
  | d :: ds, vs, i + 1, x, ⟨v, r, e1, e2, e3⟩, h => by
    subst e1
    obtain ⟨u, q1, q2⟩ := RXs.get (i := i) (x := x) e3 (by simpa using h)
    exact ⟨u, by simpa using q1, q2⟩
theorem rxs_perm {w : Wd} {xs : List Xv} {vs : List V} (h : RXs T w xs vs) : ∀ pm : List Nat, RXs T w (permL pm xs) (permL pm vs)
  | [] => rfl
  | i :: pm => by
    have ih := rxs_perm h pm
    have hl := h.length
    unfold permL at ih ⊢
    rw [List.filterMap_cons, List.filterMap_cons]
    cases e : xs[i]? with
    | none =>
      have e2 : vs[i]? = none := by
        rw [List.getElem?_eq_none_iff] at e ⊢
        omega
      rw [e2]
      exact ih
    | some v =>
      obtain ⟨u, e2, r⟩ := RXs.get h e
      rw [e2]
      exact .cons r ih
end
/-- how keywords are bound -/
structure KB (K : PySem.W.Frag) (fd : FuncData) (ps ks : List Str) (pm : List Nat) : Prop where
  to : ∀ (s : Shared) (ws : List Value), K.In s.heap → ws.length = ks.length → BindsTo s fd ⟨[], ks.zip ws⟩ (ps.zip (permL pm ws))
theorem kb_of {K : PySem.W.Frag} {x qual : Str} {params : Arguments} {body : List Stmt} {scope : Scope} {kws : List (Str × V)} {f : Addr} {fd : FuncData} {ps ks : List Str} {pm : List Nat} (F : FunD K x qual params body scope [] kws f fd)
    (h : ∀ (kV doc pm' : Value) (an : Option Addr) (cdv ct : Value) (ws : List Value), ws.length = ks.length → bindArgs (PySem.W.fnOf x qual params body scope .none kV doc pm' an cdv ct) ⟨[], ks.zip ws⟩ = pure (ps.zip (permL pm ws))) : KB K fd ps ks pm := by
  obtain ⟨oc, od, dV, kV, doc, pm', an, cdv, ct, osl, rfl, lk, hcd, hd, _⟩ := F.ex
  rcases hd with ⟨_, rfl⟩ | ⟨hd, _⟩
  · exact ⟨fun s ws _ hw => BindsTo.of_eq (h _ _ _ _ _ _ ws hw)⟩
  · exact absurd rfl hd
section
variable {T : Tx} {X : Cx} {W : WX}
abbrev PFK (T : Tx) (X : Cx) (W : WX) (kws : List Keyword) (g : FA) : Prop := PK X kws (rdA T W g)
theorem PK.imp {kws : List Keyword} {t t' : TA} (h : PK X kws t) (k : ∀ st H Q, t' st H Q → t st H Q) : PK X kws t' := ⟨fun pos pins s σ H Q I q => h.run pos pins s σ H Q I (k _ _ _ q)⟩
theorem pfk_nil : PFK T X W [] nilA := PK.imp pk_nil fun st H Q ⟨w, ρ, s, e, q, p⟩ => p w [] H (.refl _) rfl q
theorem pfk_cons {kpos : Pos} {e : Expr} {kws : List Keyword} {f : FE} {g : FA} {nm : Option Str} (ha : PF T X W e f) (hr : PFK T X W kws g) : PFK T X W (⟨nm, e, kpos⟩ :: kws) (consA f g) :=
  PK.imp (pk_cons ha hr) fun st H Q ⟨w, ρ, s, e, q, p⟩ => rdE_mono (postA_bind e q p) fun u H1 ⟨w1, x, s1, l1, e1, x1, r1, p1⟩ => rdA_mono (postA_bindL e1 r1 p1) fun us H2 ⟨w2, xs, s2, l2, e2, x2, r2, p2⟩ =>
    p2 w2 (u :: us) H2 (.refl _) (.cons (x1.mono l2) x2) r2
def callKF (m : Bool) (n k : Nat) (F : Fn) (pm : List Nat) (g : FA) : FE := fun ρ s => (g ρ s).bind fun xs s1 => if xs.length = k ∧ (permL pm xs).length = n then runC m F (permL pm xs) s1 else .stuck
theorem pf_callK0 {k : Nat} {f : Addr} {fd : FuncData} {ps ks : List Str} {F : Fn} {pm : List Nat} {x : Str} {p pos : Pos} {kws : List Keyword} {g : FA} (m : Bool)
    (G : FnG X.prog X.w X.K X.mg X.base k f fd ps (spF T ps.length F)) (hr : RoomG k X.A) (tk : Takes X W) (hm : X.mg x = some (.ref f)) (hk : PySem.W.keepIn X.K (.ref f) = true) (hb : KB X.K fd ps ks pm) (ha : PFK T X W kws g) (hg : Gl X x := by rfl) (hdb : (x == ("__debug__" : Str)) = false := by decide)
    (hall : ((backToKw pos (keywordEach kws X.env)).all fun x => x.fst.isSome) = true := by rfl) (hks : List.filterMap (fun x => x.fst) (backToKw pos (keywordEach kws X.env)) = ks := by rfl)
    (hpl : (((backTo pos (starEach [] X.env)).any fun x => x.fst) || (backToKw pos (keywordEach kws X.env)).any fun x => x.fst.isNone) = false := by rfl) :
    PF T X W (.Call (.Name x p) [] kws pos) (callKF m ps.length ks.length F pm g) := ⟨fun pins s σ H Q I h => by
  refine wpAny_Call_Name_kw (ld_glob I hg hm ?_ hdb)
  refine PySem.W.callWith_KW0 (h₀ := X.base) I.ok.mod.kin hk hall ?_ hpl
  obtain ⟨w, ρ, s0, e0, q0, p0⟩ := h
  refine thn (ha.run pos pins s σ H _ I (postE_bindL e0 q0 p0)) fun us s1 ⟨vs, H1, I1, r, w1, xs, s2, l1, e1, x1, r1, p1⟩ => ⟨I1.kIn, ?_⟩
  rw [hks]
  split at p1
  · rename_i hlen
    have hl := x1.length
    have hu : us.length = ks.length := by rw [← hlen.1, hl, r.length]
    have hsp := runC_ok (W := W) (st := σ) (n := ps.length) hlen.2 (rxs_perm x1 pm) r1 p1
    have ra : Vals (permL pm vs) (permL pm us) := vals_perm r pm
    refine wpAny_call (codeAny_mono (G.run X.A X.stack s1 H1 ⟨[], ks.zip us⟩ (permL pm us) (permL pm vs) Q (WE W σ) hr I1.env0 (hb.to s1 us I1.kIn hu) ra hsp) fun res s' hq => ?_)
    cases res with
    | error e => exact passAt tk σ pins H1 s1 e s' I1 hq
    | ok fl =>
      cases fl with
      | ret u => exact I1.after hq
      | next => exact (show False from hq).elim
      | brk => exact (show False from hq).elim
      | cont => exact (show False from hq).elim
  · exact p1.elim⟩
/-! ### repr -/
def rRepr (K : PySem.W.Frag) : RN := fun xs H Q => ∃ x d, xs = [x] ∧ Dp K H x d ∧ d.canLay0 = true ∧ d.showable = true ∧ d.depth ≤ 32 ∧ d.shown.length ≤ sizeLine ∧ Q (.str d.shown) H
theorem call_reprD (hgd : X.A.guards = some []) (hu : X.A.units + 64 < cLine) : CallR X (.builtin "repr") (rRepr X.K) := by
  rintro pins s σ H xs us Q I r ⟨x, d, rfl, dp, hcl, hsh, hdp, hln, q⟩
  cases r with
  | cons ra r =>
    cases r
    cases dp with
    | non =>
      have e : _ = Value.none := ra
      subst e
      refine PySem.P.repr_of_none ⟨.str PyData.none.shown, H, I.tok _, ⟨s.toks, ?_⟩, q⟩
      rw [PyData.shown.eq_1]
    | bl b =>
      have e : _ = Value.bool b := ra
      subst e
      refine PySem.P.repr_of_bool ⟨.str (PyData.bool b).shown, H, I.tok _, ⟨s.toks, ?_⟩, q⟩
      rw [PyData.shown.eq_2]
    | int i =>
      obtain ⟨t, rfl⟩ := ra
      rw [PyData.showable.eq_def] at hsh
      refine PySem.P.repr_of_int (by simpa using hsh) ⟨.str (PyData.int i).shown, H, I.tok _, ⟨s.toks, ?_⟩, q⟩
      rw [PyData.shown.eq_3]
    | str y =>
      obtain ⟨t, rfl⟩ := ra
      rw [PyData.shown.eq_4] at hln
      refine PySem.P.repr_of_str ⟨.str (PyData.str y).shown, H, I.tok _, ⟨s.toks, ?_⟩, q⟩ hln
      rw [PyData.shown.eq_4]
    | lst a1 a2 =>
      obtain ⟨as, rd⟩ := Dp.reads I _ _ _ (.lst a1 a2) ra
      have e : _ = Value.ref _ := ra
      subst e
      exact repr_of_reads' rd hsh (PyData.noDict_hsm (PyData.hasDict_of_canLay _ hcl)) hgd (by omega) (fun _ _ z => z) (fun h' u tk k => ⟨.str _, H, I.kept (t' := tk) k, ⟨_, rfl⟩, q⟩) hln
    | tup a1 a2 =>
      obtain ⟨as, rd⟩ := Dp.reads I _ _ _ (.tup a1 a2) ra
      have e : _ = Value.ref _ := ra
      subst e
      exact repr_of_reads' rd hsh (PyData.noDict_hsm (PyData.hasDict_of_canLay _ hcl)) hgd (by omega) (fun _ _ z => z) (fun h' u tk k => ⟨.str _, H, I.kept (t' := tk) k, ⟨_, rfl⟩, q⟩) hln
theorem repr_ok : OpN T W (rRepr T.K) reprX := by
  intro st w xs vs s H Q hx r p
  unfold reprX at p
  split at p
  · rename_i x
    split at p
    · rename_i a ha
      split at p
      · rename_i h
        rw [Bool.and_eq_true, Bool.and_eq_true, decide_eq_true_iff] at h
        obtain ⟨v, rfl, e⟩ := rxs1 hx
        have hf := flatS_ok h.1.1
        exact ⟨v, toP a, rfl, eqView_ok rfl r e ha h.1.1, hf.1, h.1.2, hf.2, h.2, postE_ok p rX_str r⟩
      · exact p.elim
    · exact p.elim
  · exact p.elim
end
end FL

set_option Elab.async false
set_option linter.all false
set_option maxRecDepth 100000
set_option maxHeartbeats 400000
namespace FL
open PySem PySem.Spec PyProof.Rows L2
/-! ### contexts by their parts -/
structure Qx where
  A : Around
  s0 : Shared
  H0 : Hp
  L : Addr
  glob : Addr
  cells : List (Str × Addr)
  qual : Str
  func : Option Addr
  code : Value
  bi : Addr
  outer : List Env
  pn : List (Addr × Obj)
  xe : Value → Shared → Prop
abbrev enX (sc : Scope) (q : Qx) : Env := { scope := sc, locals := q.L, globals := q.glob, cells := q.cells, qual := q.qual, func := q.func, code := q.code, frame := some q.L, builtins := q.bi }
abbrev mkX (P : Program) (w : World) (K : PySem.W.Frag) (mg : Str → Option Value) (base : Heap) (N : List Str) (sc : Scope) (q : Qx) : Cx :=
  { prog := P, w := w, K := K, mg := mg, base := base, A := q.A, N := N, s_0 := q.s0, H_0 := q.H0, env := enX sc q, outer := q.outer, stack := enX sc q :: q.outer, ex := [], fn := fun _ => true, calm := true, pn := q.pn, xe := q.xe }
section
variable {T : Tx} {P : Program} {w : World} {K : PySem.W.Frag} {mg : Str → Option Value} {base : Heap}
theorem fn_mk2 {k : Nat} {x qual : Str} {params : Arguments} {body : List Stmt} {scope : Scope} {dvs : List V} {kws : List (Str × V)} {f : Addr} {fd : FuncData} {N ps : List Str} {fs : FS}
    (F : FunD K x qual params body scope dvs kws f fd) (S : FnScope N ps scope)
    (h : ∀ (q : Qx) (W : WX), RoomG k q.A → Takes (mkX P w K mg base N scope q) W → PassesOwn (model P w) q.A (enX scope q) q.xe → PFSs T (mkX P w K mg base N scope q) W body fs) :
    FnG P w K mg base (k + 1) f fd ps (spF T ps.length (bodyF (N.length - ps.length) fs)) := by
  obtain ⟨oc, od, dV, kV, doc, pm, an, cdv, ct, osl, rfl, lk, hcd, _, _⟩ := F.ex
  refine fnG_of lk hcd S (fun vs H Q E ⟨w, ds, s, h1, h2, _⟩ => by rw [← h2.length]; exact h1) fun A outer s H vs Q E hr ⟨w0, ds, s0, h1, h2, h3, h4⟩ => ?_
  have hl := h2.length
  refine ⟨_, h ⟨A.deeper (envOfC qual scope s.heap.objs.size f cdv), s, H, (envOfC qual scope s.heap.objs.size f cdv).locals, (envOfC qual scope s.heap.objs.size f cdv).globals, (envOfC qual scope s.heap.objs.size f cdv).cells, (envOfC qual scope s.heap.objs.size f cdv).qual, (envOfC qual scope s.heap.objs.size f cdv).func, (envOfC qual scope s.heap.objs.size f cdv).code, (envOfC qual scope s.heap.objs.size f cdv).builtins, outer, [], (cxOf (L2.CX P w) P w K mg base N qual scope f cdv A outer s H E).xe⟩
    (fun cls d _ H => E cls d H) hr (takes_of rfl rfl rfl rfl) (passes_of (X := cxOf (L2.CX P w) P w K mg base N qual scope f cdv A outer s H E) rfl), ?_⟩
  refine ⟨w0, ds.map some ++ List.replicate (N.length - ps.length) none, s0, re_start h2 (by rw [← hl, h1]), h3, ?_⟩
  unfold bodyF at h4
  revert h4
  cases fs (ds.map some ++ List.replicate (N.length - ps.length) none) s0 with
  | nx r s' => exact fun p w' st H' l e1 e2 => p w' _ H' l rX_non e2
  | rt v s' => exact fun p w' u H' l e1 e2 => p w' u H' l e1 e2
  | exc e r s' => exact fun p w' cls d st H' l e1 _ e2 => p w' cls d H' l e1 e2
  | bk r s' => exact fun p => p.elim
  | ct r s' => exact fun p => p.elim
  | stuck => exact fun p => p.elim
/-- a def of the text -/
structure Def (T : Tx) (P : Program) (w : World) (K : PySem.W.Frag) (mg : Str → Option Value) (base : Heap) (k : Nat) (x : Str) (ps : List Str) (dv : List D) (F : Fn) : Prop where
  ex : ∃ f fd dvs ds, FnG P w K mg base k f fd ps (spF T ps.length F) ∧ mg x = some (.ref f) ∧ PySem.W.keepIn K (.ref f) = true ∧ Binds K fd ps ds ∧ Vals dvs ds ∧ ∀ G, Rs T G dv dvs
structure DefK (T : Tx) (P : Program) (w : World) (K : PySem.W.Frag) (mg : Str → Option Value) (base : Heap) (k : Nat) (x : Str) (ps ks : List Str) (pm : List Nat) (F : Fn) : Prop where
  ex : ∃ f fd, FnG P w K mg base k f fd ps (spF T ps.length F) ∧ mg x = some (.ref f) ∧ PySem.W.keepIn K (.ref f) = true ∧ KB K fd ps ks pm
end
/-- what rules ask of a context -/
structure Cn (T : Tx) (X : Cx) (W : WX) (k : Nat) : Prop where
  hK : X.K = T.K
  hr : RoomG k X.A
  tk : Takes X W
  calm : X.calm = true
  nd : X.N.Nodup
theorem Cn.blk {T : Tx} {X : Cx} {W : WX} {k : Nat} (C : Cn T X W k) (s : Shared) (H : Hp) (sc : Scope) (env : Env) (fp : List Addr) : Cn T (X.blk s H sc env fp) W0 k := ⟨C.hK, C.hr, takes0, C.calm, C.nd⟩
theorem Cn.un {T : Tx} {X : Cx} {W : WX} {k : Nat} (C : Cn T X W k) : X.A.units + 64 < cLine := by
  have := C.hr.room.un
  omega
section
variable {T : Tx} {X : Cx} {W : WX} {k : Nat}
theorem pf_callD {j : Nat} {ps : List Str} {F : Fn} {dv : List D} {x : Str} {p pos : Pos} {e : Expr} {es : List Expr} {g : FA} (m : Bool) (D : Def T X.prog X.w X.K X.mg X.base j x ps dv F) (C : Cn T X W k) (ha : PFA T X W (e :: es) g) (hgl : LenA g (e :: es).length) (hj : j ≤ k := by decide) (hl : (e :: es).length + dv.length = ps.length := by rfl)
    (hg : Gl X x := by rfl) (hdb : (x == ("__debug__" : Str)) = false := by decide) (he : starEach (e :: es) X.env = (false, eval e X.env) :: starEach es X.env := by rfl) (hpl : (backTo pos (starEach es X.env)).any (·.1) = false := by rfl) :
    PF T X W (.Call (.Name x p) (e :: es) [] pos) (callF m F dv g) := by
  obtain ⟨f, fd, dvs, ds, G, hm, hk, hb, hd, hv⟩ := D.ex
  exact pf_call m (G.mono hj) C.hr C.tk hm hk hb hd hv ha hl hg hdb he hpl hgl
theorem pf_callD0 {j : Nat} {ps : List Str} {F : Fn} {dv : List D} {x : Str} {p pos : Pos} (m : Bool) (D : Def T X.prog X.w X.K X.mg X.base j x ps dv F) (C : Cn T X W k) (hj : j ≤ k := by decide) (hl : dv.length = ps.length := by rfl)
    (hg : Gl X x := by rfl) (hdb : (x == ("__debug__" : Str)) = false := by decide) : PF T X W (.Call (.Name x p) [] [] pos) (callF m F dv nilA) := by
  obtain ⟨f, fd, dvs, ds, G, hm, hk, hb, hd, hv⟩ := D.ex
  exact pf_call0 m (G.mono hj) C.hr C.tk hm hk hb hd hv hl hg hdb
theorem pf_callDK {j : Nat} {ps ks : List Str} {pm : List Nat} {F : Fn} {x : Str} {p pos : Pos} {kws : List Keyword} {g : FA} (m : Bool) (D : DefK T X.prog X.w X.K X.mg X.base j x ps ks pm F) (C : Cn T X W k) (ha : PFK T X W kws g) (hj : j ≤ k := by decide) (hg : Gl X x := by rfl) (hdb : (x == ("__debug__" : Str)) = false := by decide)
    (hall : ((backToKw pos (keywordEach kws X.env)).all fun x => x.fst.isSome) = true := by rfl) (hks : List.filterMap (fun x => x.fst) (backToKw pos (keywordEach kws X.env)) = ks := by rfl)
    (hpl : (((backTo pos (starEach [] X.env)).any fun x => x.fst) || (backToKw pos (keywordEach kws X.env)).any fun x => x.fst.isNone) = false := by rfl) :
    PF T X W (.Call (.Name x p) [] kws pos) (callKF m ps.length ks.length F pm g) := by
  obtain ⟨f, fd, G, hm, hk, hb⟩ := D.ex
  exact pf_callK0 m (G.mono hj) C.hr C.tk hm hk hb ha hg hdb hall hks hpl
/-! ### a changing list becomes plain data -/
def frzO (j : Nat) (d : D) : Option Xv → Option Xv
  | some (.ref k) => if k = j then some (.d d) else some (.ref k)
  | o => o
def frzS (i : Nat) (a : FS) : FS := fun ρ s => match ρ[i]? with
  | some (some (.ref j)) => match s[j]? with
    | some (.lst xs) => a (ρ.map (frzO j (.lst xs))) (s.set j .dead)
    | _ => .stuck
  | some (some (.d _)) => a ρ s
  | _ => .stuck
theorem rs_freeze {w : Wd} {s : Sto} {H : Hp} {j : Nat} {a : Addr} {xs : List D} (r : RS T w s H) (e : s[j]? = some (.lst xs)) (ea : w.io[j]? = some a) : ∃ vs, Rs T w.G xs vs ∧ Le w { w with G := upd w.G a (.lst vs) } ∧ RS T { w with G := upd w.G a (.lst vs) } (s.set j .dead) H := by
  obtain ⟨ho, h1, ⟨vs, h2, h3⟩, h4, h5⟩ := r.live j _ a e (by simp) ea
  subst h2
  have sg : Same w.G (upd w.G a (.lst vs)) := fun b u q => by rw [upd_ne (ne_of_none q h4)]; exact q
  have back : ∀ {i : Nat} {u : O}, (s.set j .dead)[i]? = some u → u ≠ .dead → i ≠ j ∧ s[i]? = some u := fun {i u} q1 q2 => by
    by_cases hi : j = i
    · subst hi
      have il : j < s.length := (List.getElem?_eq_some_iff.mp e).1
      rw [List.getElem?_set_self il] at q1
      cases q1
      exact absurd rfl q2
    · rw [List.getElem?_set_ne hi] at q1
      exact ⟨fun z => hi z.symm, q1⟩
  refine ⟨vs, h3, ⟨sg, rfl, [], by simp⟩, ⟨fun b u q => ?_, r.z, fun b u q => ?_, by simp [r.len], fun i u b q1 q2 q3 => ?_, fun i k u v b q1 q2 q3 q4 q5 q6 => ?_⟩⟩
  · by_cases hb : b = a
    · subst hb
      have q' : upd w.G b (.lst vs) b = some u := q
      rw [upd_same] at q'
      rw [h1]
      exact q'
    · have q' : upd w.G a (.lst vs) b = some u := q
      rw [upd_ne hb] at q'
      exact r.g _ _ q'
  · have hb : b ≠ a := ne_of_none q h5
    show upd w.G a (.lst vs) b = none
    rw [upd_ne hb]
    exact r.gz _ _ q
  · obtain ⟨hi, q⟩ := back q1 q2
    have q3' : w.io[i]? = some b := q3
    obtain ⟨ho, k1, k2, k3, k4⟩ := r.live i u b q q2 q3'
    have hb : b ≠ a := fun z => hi (r.inj i j u _ a q q2 e (by simp) (by rw [← z]; exact q3') ea)
    exact ⟨ho, k1, RO.mono sg k2, by show upd w.G a (.lst vs) b = none; rw [upd_ne hb]; exact k3, k4⟩
  · exact r.inj i k u v b (back q1 q2).2 q2 (back q3 q4).2 q4 q5 q6
theorem pfs_frz (i : Nat) {st : List Stmt} {a : FS} (h : PFSs T X W st a) : PFSs T X W st (frzS i a) := PSs.imp h fun E σ H ⟨w, ρ, s, e, r, p⟩ => by
  unfold frzS at p
  split at p
  · rename_i j hj
    split at p
    · rename_i xs hs
      obtain ⟨u, e1, a0, e2, e3⟩ := e.at_ i _ hj
      obtain ⟨vs, k1, k2, k3⟩ := rs_freeze r hs e2
      refine ⟨_, _, _, ⟨by rw [List.length_map]; exact e.len, fun n y hy => ?_⟩, k3, PostS.mono k2 p⟩
      rw [List.getElem?_map] at hy
      cases q : ρ[n]? with
      | none => rw [q] at hy; cases hy
      | some o =>
        rw [q] at hy
        have hy' : frzO j (.lst xs) o = some y := by simpa using hy
        cases o with
        | none => cases hy'
        | some x =>
          obtain ⟨v, q1, q2⟩ := e.at_ n x q
          refine ⟨v, q1, ?_⟩
          cases x with
          | d x =>
            cases hy'
            exact RX.mono k2 q2
          | ref l =>
            unfold frzO at hy'
            dsimp only at hy'
            split at hy'
            · rename_i hl
              cases hy'
              subst hl
              obtain ⟨b, m1, m2⟩ := q2
              rw [e2] at m1
              cases m1
              show R T _ (.lst xs) v
              unfold R
              exact ⟨_, vs, m2, upd_same, Rs.mono k2.g k1⟩
            · cases hy'
              exact RX.mono k2 q2
    · exact p.elim
  · exact ⟨w, ρ, s, e, r, p⟩
  · exact p.elim
end
end FL

set_option Elab.async false
set_option linter.all false
set_option maxRecDepth 100000
set_option maxHeartbeats 400000
namespace FL
open PySem PySem.Spec PyProof.Rows L2
section
variable {T : Tx} {X : Cx} {W : WX} {k : Nat} {own ex : Nat → Bool}
/-! ### the rules of operators and built-ins, ready for use -/
theorem o_eq (C : Cn T X W k) : OpR X (compareOp .Eq) (rEqD T.K) := C.hK ▸ op_eqD C.un
theorem o_ne (C : Cn T X W k) : OpR X (compareOp .NotEq) (rNeD T.K) := C.hK ▸ op_neD C.un
theorem b_len (C : Cn T X W k) : CallR X (.builtin "len") (fun xs H Q => ∃ x n, xs = [x] ∧ LenV T.K x H n ∧ Q (.int n) H) := C.hK ▸ call_len
theorem b_sum (C : Cn T X W k) : CallR X (.builtin "sum") (rSum T.K) := C.hK ▸ cr_sum C.calm
theorem b_max (C : Cn T X W k) : CallR X (.builtin "max") (fun xs H Q => ∃ i j, xs = [.int i, .int j] ∧ Q (.int (if j > i then j else i)) H) := call_max2 C.calm
theorem b_min (C : Cn T X W k) : CallR X (.builtin "min") (fun xs H Q => ∃ i j, xs = [.int i, .int j] ∧ Q (.int (if j < i then j else i)) H) := call_min2 C.calm
theorem b_repr (C : Cn T X W k) : CallR X (.builtin "repr") (rRepr T.K) := C.hK ▸ call_reprD C.hr.gd C.un
theorem b_isi (C : Cn T X W k) : CallR X (.builtin "isinstance") (fun xs H Q => rIsEx T.K xs H Q ∨ rIsi T.K xs H Q) := C.hK ▸ callR_or call_isEx call_isi
theorem b_tuple (C : Cn T X W k) : CallR X (.type "tuple") (fun xs H Q => ∃ p ys, xs = [.ref p] ∧ ((SqL T.K H p ys ∧ ∀ l, H l = none → Q (.ref l) (upd H l (.tup ys))) ∨ (SqT T.K H p ys ∧ Q (.ref p) H))) := C.hK ▸ call_tuple_of
theorem b_list (C : Cn T X W k) : CallR X (.type "list") (fun xs H Q => ∃ p ys, xs = [.ref p] ∧ (SqL T.K H p ys ∨ SqT T.K H p ys) ∧ ∀ l, H l = none → Q (.ref l) (upd H l (.lst ys))) := C.hK ▸ call_list_of
theorem b_int (C : Cn T X W k) : CallR X (.type "int") (fun xs H Q => (∃ i, xs = [.int i] ∧ Q (.int i) H) ∨ ∃ k, xs = [.bl k] ∧ Q (.int (if k then 1 else 0)) H) := call_int1
end
theorem bt_len : bootBuiltins "len" = some (.builtin "len") := by first | rfl | decide +kernel | kernel_rfl
theorem bt_sum : bootBuiltins "sum" = some (.builtin "sum") := by first | rfl | decide +kernel | kernel_rfl
theorem bt_max : bootBuiltins "max" = some (.builtin "max") := by first | rfl | decide +kernel | kernel_rfl
theorem bt_min : bootBuiltins "min" = some (.builtin "min") := by first | rfl | decide +kernel | kernel_rfl
theorem bt_repr : bootBuiltins "repr" = some (.builtin "repr") := by first | rfl | decide +kernel | kernel_rfl
theorem bt_isinstance : bootBuiltins "isinstance" = some (.builtin "isinstance") := by first | rfl | decide +kernel | kernel_rfl
theorem bt_tuple : bootBuiltins "tuple" = some (.type "tuple") := by first | rfl | decide +kernel | kernel_rfl
theorem bt_list : bootBuiltins "list" = some (.type "list") := by first | rfl | decide +kernel | kernel_rfl
theorem bt_int : bootBuiltins "int" = some (.type "int") := by first | rfl | decide +kernel | kernel_rfl
theorem bt_bool : bootBuiltins "bool" = some (.type "bool") := by first | rfl | decide +kernel | kernel_rfl
theorem bt_str : bootBuiltins "str" = some (.type "str") := by first | rfl | decide +kernel | kernel_rfl
end FL

set_option Elab.async false
set_option linter.all false
set_option maxRecDepth 100000
set_option maxHeartbeats 1000000
namespace FL
open PySem PySem.Spec PyProof.Rows L2
/-- the law, called behind the top: what a function value that keeps FnG answers -/
theorem law_go {P : Program} {w : World} {K : PySem.W.Frag} {mg mb : Str → Option Value} {j : Nat} {lawA scr : Addr} {fd : FuncData} {p : Str} {promise : Sp} {sh : Shared} {items : List Value} {nums : List Int}
    (inK : K.In sh.heap) (gl : sh.heap.Ns mainGlobals mg) (bl : sh.heap.Ns builtinsNs mb) (boot : ∀ n : Str, n ≠ "__name__" → mb n = bootBuiltins n) (free : sh.heap.NoLimit) (calm : sh.gens = #[])
    (at_ : sh.heap.get? scr = some { cls := .type "list", data := .seq items.toArray }) (are : IntsAre items nums) (few : nums.length ≤ sizeLine) (rm : RoomG j callerA)
    (G : ∀ base : Heap, K.In base → base.Ns mainGlobals mg → FnG P w K mg base j lawA fd [p] promise) (bind : ∀ (s : Shared) (u : Value), BindsTo s fd ⟨[u], []⟩ [(p, u)])
    (keeps : ∀ Hh : Hp, Only Hh → SqL K Hh scr (nums.map V.int) → promise [.ref scr] Hh (fun v _ => v = .bl true) fun _ _ _ => False)
    (none_out : ∀ Hh e s', L2.CX P w [] Hh sh (fun _ _ _ => False) e s' → False) :
    codeAny (model P w) callerA (.call (.ref lawA) ⟨[.ref scr], []⟩) (fun out s' => out = .ok (.ret (.bool true)) ∧ OldK sh.heap s'.heap ∧ s'.os = sh.os ∧ AllBare s'.gens) sh := by
  have rel := vals_ints are
  have count := are.length
  have main : ∀ Hh : Hp, Only Hh → SqL K Hh scr (nums.map V.int) → HOk P w Hh sh.heap → (∀ b, Hh b ≠ none → b = scr) → (Hh scr ≠ none → K.lookup scr = none) →
      codeAny (model P w) callerA (.call (.ref lawA) ⟨[.ref scr], []⟩) (fun out s' => out = .ok (.ret (.bool true)) ∧ OldK sh.heap s'.heap ∧ s'.os = sh.os ∧ AllBare s'.gens) sh := by
    intro Hh only sq ok sole foreign
    have free_of : ∀ {b : Addr}, (Hh b ≠ none → False) → Hh b = none := fun {b} k => by
      cases q : Hh b with
      | none => rfl
      | some u => exact (k (by rw [q]; exact fun z => nomatch z)).elim
    have noDict : ∀ {b : Addr} {ob : Obj} {es : Array DictEntry} {ep : Nat}, sh.heap.get? b = some ob → ob.data = .dict es ep → Hh b = none := fun {b ob es ep} e dd => free_of fun z => by
      have eb := sole b z
      subst eb
      rw [at_] at e
      cases e
      exact nomatch (show Data.seq items.toArray _ = Data.dict es ep from dd)
    have ns_of : ∀ {b : Addr} {m : Str → Option Value}, sh.heap.Ns b m → (hidT sh.heap Hh).Ns b m := fun {b m} ⟨ob, es, ep, e, dd, r⟩ => ⟨ob, es, ep, hidT_get e (noDict e dd), dd, r⟩
    have kIn : K.In (hidT sh.heap Hh) := fun b ob e => hidT_get (inK b ob e) (free_of fun z => by
      have eb := sole b z
      subst eb
      rw [foreign z] at e
      cases e)
    have md : Mod K mg (hidT sh.heap Hh) := ⟨kIn, ns_of gl, ⟨mb, ns_of bl, boot⟩, free.elim fun mc z => ⟨mc, ns_of z.1, z.2⟩⟩
    have env : Env0 P w K mg (hidT sh.heap Hh) callerA [] sh Hh := ⟨rfl, md, fun b ob e => of_hidT e, Nat.le_of_eq (hidT_size _ _), trivial, fun b hb => (List.not_mem_nil (show b ∈ ([] : List Addr) from hb)).elim, ok, .of_eq calm⟩
    refine codeAny_mono ((G _ kIn (ns_of gl)).run callerA [] sh Hh ⟨[.ref scr], []⟩ [.ref scr] [.ref scr] _ _ rm env (bind sh (.ref scr)) (.cons rfl .nil) (keeps Hh only sq)) fun out s' fin => ?_
    match out, fin with
    | .error e, fin => exact (none_out Hh e s' fin).elim
    | .ok .next, fin => exact False.elim fin
    | .ok .brk, fin => exact False.elim fin
    | .ok .cont, fin => exact False.elim fin
    | .ok (.ret u), ⟨v, H2, os2, bare2, un, ok2, ru, q⟩ =>
      cases (show v = .bl true from q)
      obtain rfl : u = Value.bool true := ru
      refine ⟨rfl, OldK.of_keep fun b ob e => ?_, os2, bare2⟩
      rcases only b with z | ⟨o1, xs, z⟩
      · exact un.keep b ob e z (fun k => (List.not_mem_nil (show b ∈ ([] : List Addr) from k)).elim) (fun k => nomatch k)
      · obtain ⟨e1, _⟩ := ok b _ z
        obtain ⟨e2, _⟩ := ok2 b _ (un.frzs b o1 _ z)
        rw [e1] at e
        cases e
        exact e2
  cases inside : K.lookup scr with
  | some ob =>
    have e := inK scr ob inside
    rw [at_] at e
    cases e
    exact main (fun _ => none) (fun _ => .inl rfl) (.inr ⟨_, items.toArray, _, inside, rfl, rfl, rfl, by rw [List.size_toArray, count]; exact few, by simpa using rel⟩) (fun b u z => nomatch z) (fun b z => absurd rfl z) fun z => absurd rfl z
  | none =>
    have one : ∀ {b : Addr} {u : HO}, (if b = scr then some (HO.frz { cls := .type "list", data := .seq items.toArray } (.lst (nums.map V.int))) else none) = some u → b = scr := fun {b u} z => by
      by_cases hb : b = scr
      · exact hb
      · rw [if_neg hb] at z
        cases z
    refine main (fun b => if b = scr then some (.frz { cls := .type "list", data := .seq items.toArray } (.lst (nums.map V.int))) else none) (fun b => ?_) (.inl (.inr ⟨{ cls := .type "list", data := .seq items.toArray }, if_pos rfl⟩)) (fun b u z => ?_) (fun b z => ?_) fun _ => inside
    · by_cases hb : b = scr
      · exact .inr ⟨_, _, if_pos hb⟩
      · exact .inl (if_neg hb)
    · have hb := one z
      subst hb
      have z2 := (if_pos rfl).symm.trans z
      cases z2
      exact ⟨at_, by rw [List.length_map]; exact few, items, _, rel, at_⟩
    · by_cases hb : b = scr
      · exact hb
      · exact absurd (if_neg hb) z
/-- what a law says that answers True at each script -/
theorem law_says {T : Tx} {F : Fn} {K : PySem.W.Frag} (hK : T.K = K) (hF : ∀ ns : List Int, ∃ s, F [.d (.scr ns)] [] = .ok (.d (.bl true)) s) {Hh : Hp} {scr : Addr} {nums : List Int} (sq : SqL K Hh scr (nums.map V.int)) :
    spF T 1 F [.ref scr] Hh (fun v _ => v = .bl true) fun _ _ _ => False := by
  obtain ⟨s2, e⟩ := hF nums
  refine ⟨⟨Hh, fun _ => none, []⟩, [.d (.scr nums)], [], rfl, ⟨.ref scr, [], rfl, ?_, rfl⟩, ⟨Same.refl _, (fun a o z => nomatch z), (fun a o z => nomatch z), rfl, (fun i o a z => nomatch z), (fun i j o u a z => nomatch z)⟩, ?_⟩
  · show R T Hh (.scr nums) (.ref scr)
    unfold R
    exact ⟨scr, rfl, by rw [hK]; exact sq⟩
  · rw [e]
    exact fun w2 u H2 _ x _ => X_bl x
theorem no_cx {P : Program} {w : World} (Hh : Hp) (sh : Shared) (e : Value) (s' : Shared) (h : L2.CX P w [] Hh sh (fun _ _ _ => False) e s') : False := by
  obtain ⟨a, B, H2, cls, d, _, _, _, _, _, _, _, z⟩ := h
  exact z
theorem walk_go {l : PySem.W.OpenLaw} {n j : Nat} {q : Program} {loose : List Str} {XP : (Str → Option Value) → Heap → Prop} {YP : World → Heap → Prop} {d : DefRec} {K : Params → PySem.W.Frag} {p : Str} {F : Fn}
    (most : l.most = some n) (few : n ≤ sizeLine) (noDf : d.params.defaults = []) (rm : RoomG j callerA) (inK : ∀ (w : World) (h : Heap), YP w h → (K w.params).In h) (hF : ∀ ns : List Int, ∃ s, F [.d (.scr ns)] [] = .ok (.d (.bl true)) s)
    (all : ∀ (w : World) (mg : Str → Option Value) (lawA : Addr) (h : Heap), (K w.params).In h → h.Ns mainGlobals mg → mg d.name = some (.ref lawA) →
      ∃ (T : Tx) (fd : FuncData), T.K = K w.params ∧ (∀ (s : Shared) (u : Value), BindsTo s fd ⟨[u], []⟩ [(p, u)]) ∧ ∀ base : Heap, (K w.params).In base → base.Ns mainGlobals mg → FnG l.prog w (K w.params) mg base j lawA fd [p] (spF T 1 F)) :
    PySem.W.WalkO q loose XP YP l.row.toRowW d [] (fun f vs => PySem.call f vs) := by
  refine Att.attach_call most noDf fun w s0 sh mg mb lawA o pm cd doc scr items nums G Y ho hd hcd at1 at2 are len gens => ?_
  have kin := inK w _ Y
  obtain ⟨T, fd, hK, bind, Fn⟩ := all w mg lawA _ kin G.T.g at1
  exact law_go kin G.T.g G.T.b G.T.builtins G.T.nolimit gens at2 are (Nat.le_trans len few) rm Fn bind (fun Hh _ sq => law_says hK hF sq) fun Hh e s' => no_cx Hh sh e s'
end FL

set_option Elab.async false
set_option linter.all false
set_option maxRecDepth 100000
set_option maxHeartbeats 1000000
namespace FL
open PySem PySem.Spec PyProof.Rows L2
/-- a def of the text, as the file shows it -/
structure FnF (K : PySem.W.Frag) (x : Str) (st : Stmt) (f : Addr) : Prop where
  ns : PySem.W.nsIn K mainGlobals x = some (some (.ref f))
  fn : ∃ fd, FunD K x x (defArgs st) (defBody st) (defScope st) [] [] f fd
theorem fnF {K : PySem.W.Frag} {x : Str} {st : Stmt} {f : Addr} {oc : Value} {od : Option Addr} {kV doc pm : Value} {an : Option Addr} {cd ct : Value} {sl : Array (Option Value)} (a : PySem.W.nsIn K mainGlobals x = some (some (.ref f)))
    (l : K.lookup f = some ⟨oc, od, .func (PySem.W.fnOf x x (defArgs st) (defBody st) (defScope st) .none kV doc pm an cd ct), sl⟩) (c : PySem.W.codeIn K cd x = true) (k : PySem.W.keepIn K (.ref f) = true) : FnF K x st f :=
  ⟨a, _, ⟨oc, od, .none, kV, doc, pm, an, cd, ct, sl, rfl, l, c, .inl ⟨rfl, rfl⟩, .inl rfl⟩, k⟩
section
variable {T : Tx} {P : Program} {w : World} {K : PySem.W.Frag} {mg : Str → Option Value} {base : Heap}
theorem def_mk {k : Nat} {x : Str} {st : Stmt} {f : Addr} {N ps : List Str} {fs : FS} {F : Fn} (A : FnF K x st f) (mx : mg x = some (.ref f)) (S : FnScope N ps (defScope st)) (hF : bodyF (N.length - ps.length) fs = F)
    (hb : ∀ (kV doc pm : Value) (an : Option Addr) (cdv ct : Value) (us : List Value), us.length = ps.length → bindArgs (PySem.W.fnOf x x (defArgs st) (defBody st) (defScope st) .none kV doc pm an cdv ct) ⟨us, []⟩ = pure (ps.zip us))
    (h : ∀ (q : Qx) (W : WX), RoomG k q.A → Takes (mkX P w K mg base N (defScope st) q) W → PassesOwn (model P w) q.A (enX (defScope st) q) q.xe → PFSs T (mkX P w K mg base N (defScope st) q) W (defBody st) fs) :
    Def T P w K mg base (k + 1) x ps [] F := by
  obtain ⟨fd, D⟩ := A.fn
  subst hF
  exact ⟨f, fd, [], [], fn_mk2 D S h, mx, D.kp, D.bindsN hb, .nil, fun G => by unfold Rs; rfl⟩
theorem defK_mk {k : Nat} {x : Str} {st : Stmt} {f : Addr} {N ps ks : List Str} {pm : List Nat} {fs : FS} {F : Fn} (A : FnF K x st f) (mx : mg x = some (.ref f)) (S : FnScope N ps (defScope st)) (hF : bodyF (N.length - ps.length) fs = F)
    (hb : ∀ (kV doc pm' : Value) (an : Option Addr) (cdv ct : Value) (ws : List Value), ws.length = ks.length → bindArgs (PySem.W.fnOf x x (defArgs st) (defBody st) (defScope st) .none kV doc pm' an cdv ct) ⟨[], ks.zip ws⟩ = pure (ps.zip (permL pm ws)))
    (h : ∀ (q : Qx) (W : WX), RoomG k q.A → Takes (mkX P w K mg base N (defScope st) q) W → PassesOwn (model P w) q.A (enX (defScope st) q) q.xe → PFSs T (mkX P w K mg base N (defScope st) q) W (defBody st) fs) :
    DefK T P w K mg base (k + 1) x ps ks pm F := by
  obtain ⟨fd, D⟩ := A.fn
  subst hF
  exact ⟨f, fd, fn_mk2 D S h, mx, D.kp, kb_of D hb⟩
end
end FL

set_option Elab.async false
set_option linter.all false
set_option maxRecDepth 100000
set_option maxHeartbeats 1000000
namespace FL
open PySem PySem.Spec PyProof.Rows L2
def top (i : Nat) : Stmt := PySem.Challenge.pw_openloops_k01_forms_at_points.main.body.getD i (.Pass ⟨0, 0, 0, 0⟩)
def nC : Nat := 5
def subB (c k : Nat) : Bool := c == k || k == 0
def ownB (_ : Nat) : Bool := false
def exB (c : Nat) : Bool := decide (c < 5)
abbrev tx (K : PySem.W.Frag) (ct : Nat → Addr) : Tx := ⟨K, ct, nC, subB⟩
structure Tb (P : Program) (K : PySem.W.Frag) (mg : Str → Option Value) (ct : Nat → Addr) : Prop where
  txo : TxOk (tx K ct) ownB
  tex : TxEx (tx K ct) exB
  g_bool : mg "bool" = none
  g_int : mg "int" = none
  g_isinstance : mg "isinstance" = none
  g_len : mg "len" = none
  g_list : mg "list" = none
  g_max : mg "max" = none
  g_range : mg "range" = none
  g_repr : mg "repr" = none
  g_sum : mg "sum" = none
  g_super : mg "super" = none
  g_tuple : mg "tuple" = none
  g_zip : mg "zip" = none
  c_MOST_UNKNOWNS : ∃ t, mg "MOST_UNKNOWNS" = some (.int 3 t)
  m_LoopError : mg "LoopError" = some (.ref (ct 0))
  m_InvalidNumber : mg "InvalidNumber" = some (.ref (ct 1))
  m_InvalidForm : mg "InvalidForm" = some (.ref (ct 2))
  m_InvalidPoint : mg "InvalidPoint" = some (.ref (ct 3))
  m_InvalidList : mg "InvalidList" = some (.ref (ct 4))
  e_InvalidNumber : ∃ f, ErrTxt P K (ct 1) f
  e_InvalidForm : ∃ f, ErrTxt P K (ct 2) f
  e_InvalidPoint : ∃ f, ErrTxt P K (ct 3) f
  e_InvalidList : ∃ f, ErrTxt P K (ct 4) f
theorem Cn.tr {T : Tx} {X : Cx} {W W2 : WX} {k : Nat} {pn : List (Addr × Obj)} {xe : Value → Shared → Prop} (C : Cn T X W k) (tk : Takes (X.tr pn xe) W2) : Cn T (X.tr pn xe) W2 k := ⟨C.hK, C.hr, tk, C.calm, C.nd⟩
section
variable {P : Program} {w : World} {K : PySem.W.Frag} {mg : Str → Option Value} {base : Heap} {ct : Nat → Addr}
/-! is_whole -/
def N_is_whole : List Str := ["value"]
def P_is_whole : List Str := ["value"]
def S_is_whole : FS := (retS (andF (callBF (isEX nC subB ownB exB) (consA (varF 0) (consA (litF (.ty "int")) nilA))) (notF (callBF (isEX nC subB ownB exB) (consA (varF 0) (consA (litF (.ty "bool")) nilA))))))
def F_is_whole : Fn := bodyF 0 S_is_whole
theorem sc_is_whole : FnScope N_is_whole P_is_whole (defScope (top 8)) := ⟨rfl, rfl, rfl, by decide +kernel, rfl, by decide +kernel, by decide +kernel⟩
theorem b_is_whole (B : Tb P K mg ct) (q : Qx) (W : WX) (hr : RoomG 0 q.A) (tk : Takes (mkX P w K mg base N_is_whole (defScope (top 8)) q) W) (hp : PassesOwn (model P w) q.A (enX (defScope (top 8)) q) q.xe) :
    PFSs (tx K ct) (mkX P w K mg base N_is_whole (defScope (top 8)) q) W (defBody (top 8)) S_is_whole :=
  have C : Cn (tx K ct) (mkX P w K mg base N_is_whole (defScope (top 8)) q) W 0 := ⟨rfl, hr, tk, rfl, sc_is_whole.nd⟩
  (pfs_one (pfs_ret (pf_and (pf_callB (b_isi C) (isEX_ok B.txo B.tex) B.g_isinstance bt_isinstance (pfa_cons (pf_var 0) (pfa_cons (pf_ty B.g_int bt_int) pfa_nil))) (pf_one (pf_not (pf_callB (b_isi C) (isEX_ok B.txo B.tex) B.g_isinstance bt_isinstance (pfa_cons (pf_var 0) (pfa_cons (pf_ty B.g_bool bt_bool) pfa_nil))))))))
/-! is_between -/
def N_is_between : List Str := ["value", "low", "high"]
def P_is_between : List Str := ["value", "low", "high"]
def S_is_between : FS := (retS (andF (callF false F_is_whole [] (consA (varF 0) nilA)) (andF (op2F (leX) (varF 1) (varF 0)) (orF (op2F (isNoneX false) (varF 2) (litF .non)) (op2F (leX) (varF 0) (varF 2))))))
def F_is_between : Fn := bodyF 0 S_is_between
theorem sc_is_between : FnScope N_is_between P_is_between (defScope (top 9)) := ⟨rfl, rfl, rfl, by decide +kernel, rfl, by decide +kernel, by decide +kernel⟩
theorem b_is_between (B : Tb P K mg ct) (hD_is_whole : Def (tx K ct) P w K mg base 1 "is_whole" ["value"] [] F_is_whole) (q : Qx) (W : WX) (hr : RoomG 1 q.A) (tk : Takes (mkX P w K mg base N_is_between (defScope (top 9)) q) W) (hp : PassesOwn (model P w) q.A (enX (defScope (top 9)) q) q.xe) :
    PFSs (tx K ct) (mkX P w K mg base N_is_between (defScope (top 9)) q) W (defBody (top 9)) S_is_between :=
  have C : Cn (tx K ct) (mkX P w K mg base N_is_between (defScope (top 9)) q) W 1 := ⟨rfl, hr, tk, rfl, sc_is_between.nd⟩
  (pfs_one (pfs_ret (pf_and (pf_callD false hD_is_whole C (pfa_cons (pf_var 0) pfa_nil) (len_cons len_nil)) (pf_and (pf_cmp op_le int2B_ok (pf_var 1) (pf_var 0) (nomark _)) (pf_one (pf_or (pf_cmp op_isN isNone_ok (pf_var 2) pf_non (nomark _)) (pf_one (pf_cmp op_le int2B_ok (pf_var 0) (pf_var 2) (nomark _)))))))))
/-! are_counts -/
def N_are_counts : List Str := ["items", "item"]
def P_are_counts : List Str := ["items"]
def T0_are_counts : FE := (notF (callF false F_is_between [] (consA (varF 1) (consA (litF (.int 0)) (consA (litF .non) nilA)))))
def E1_are_counts : FE := (varF 1)
def S_are_counts : FS := (retS (op2F (eqX false) (lcF false [1] (nameG 1) (iterF (varF 0)) T0_are_counts E1_are_counts) (lstF false nilA)))
def F_are_counts : Fn := bodyF 1 S_are_counts
theorem sc_are_counts : FnScope N_are_counts P_are_counts (defScope (top 10)) := ⟨rfl, rfl, rfl, by decide +kernel, rfl, by decide +kernel, by decide +kernel⟩
theorem b_are_counts (B : Tb P K mg ct) (hD_is_between : Def (tx K ct) P w K mg base 2 "is_between" ["value", "low", "high"] [] F_is_between) (q : Qx) (W : WX) (hr : RoomG 2 q.A) (tk : Takes (mkX P w K mg base N_are_counts (defScope (top 10)) q) W) (hp : PassesOwn (model P w) q.A (enX (defScope (top 10)) q) q.xe) :
    PFSs (tx K ct) (mkX P w K mg base N_are_counts (defScope (top 10)) q) W (defBody (top 10)) S_are_counts :=
  have C : Cn (tx K ct) (mkX P w K mg base N_are_counts (defScope (top 10)) q) W 2 := ⟨rfl, hr, tk, rfl, sc_are_counts.nd⟩
  (pfs_one (pfs_ret (pf_cmp (o_eq C) eq_ok (pf_lc (own := [("item", 1)]) false C.calm C.nd (pfi_seq C.hK (pf_var 0)) (blkOk_by (by first | decide +kernel | rfl)) (fun _ _ _ _ _ => (pfg_name (i := 1) (Cn.blk C _ _ _ _ _).nd)) (fun _ _ _ _ _ => (pts_1 (pft_not (pft_of (Cn.blk C _ _ _ _ _).hK (pf_callD false hD_is_between (Cn.blk C _ _ _ _ _) (pfa_cons (pf_var 1) (pfa_cons pf_int (pfa_cons pf_non pfa_nil))) (len_cons (len_cons (len_cons len_nil)))))))) (fun _ _ _ _ _ => (pf_var 1))) (pf_lst false pfa_nil) (nomark _))))
/-! is_point -/
def N_is_point : List Str := ["many", "value"]
def P_is_point : List Str := ["many", "value"]
def S_is_point : FS := (retS (andF (callBF (isEX nC subB ownB exB) (consA (varF 1) (consA (litF (.ty "list")) nilA))) (andF (op2F (eqX false) (callBF lenX (consA (varF 1) nilA)) (varF 0)) (callF false F_are_counts [] (consA (varF 1) nilA)))))
def F_is_point : Fn := bodyF 0 S_is_point
theorem sc_is_point : FnScope N_is_point P_is_point (defScope (top 11)) := ⟨rfl, rfl, rfl, by decide +kernel, rfl, by decide +kernel, by decide +kernel⟩
theorem b_is_point (B : Tb P K mg ct) (hD_are_counts : Def (tx K ct) P w K mg base 3 "are_counts" ["items"] [] F_are_counts) (q : Qx) (W : WX) (hr : RoomG 3 q.A) (tk : Takes (mkX P w K mg base N_is_point (defScope (top 11)) q) W) (hp : PassesOwn (model P w) q.A (enX (defScope (top 11)) q) q.xe) :
    PFSs (tx K ct) (mkX P w K mg base N_is_point (defScope (top 11)) q) W (defBody (top 11)) S_is_point :=
  have C : Cn (tx K ct) (mkX P w K mg base N_is_point (defScope (top 11)) q) W 3 := ⟨rfl, hr, tk, rfl, sc_is_point.nd⟩
  (pfs_one (pfs_ret (pf_and (pf_callB (b_isi C) (isEX_ok B.txo B.tex) B.g_isinstance bt_isinstance (pfa_cons (pf_var 1) (pfa_cons (pf_ty B.g_list bt_list) pfa_nil))) (pf_and (pf_cmp (o_eq C) eq_ok (pf_callB (b_len C) len_ok B.g_len bt_len (pfa_cons (pf_var 1) pfa_nil)) (pf_var 0) (nomark _)) (pf_one (pf_callD false hD_are_counts C (pfa_cons (pf_var 1) pfa_nil) (len_cons len_nil)))))))
/-! is_form_for -/
def N_is_form_for : List Str := ["many", "value"]
def P_is_form_for : List Str := ["many", "value"]
def S_is_form_for : FS := (retS (andF (callBF (isEX nC subB ownB exB) (consA (varF 1) (consA (litF (.ty "tuple")) nilA))) (andF (op2F (eqX false) (callBF lenX (consA (varF 1) nilA)) (op2F (addX false) (varF 0) (litF (.int 1)))) (callF false F_are_counts [] (consA (varF 1) nilA)))))
def F_is_form_for : Fn := bodyF 0 S_is_form_for
theorem sc_is_form_for : FnScope N_is_form_for P_is_form_for (defScope (top 12)) := ⟨rfl, rfl, rfl, by decide +kernel, rfl, by decide +kernel, by decide +kernel⟩
theorem b_is_form_for (B : Tb P K mg ct) (hD_are_counts : Def (tx K ct) P w K mg base 3 "are_counts" ["items"] [] F_are_counts) (q : Qx) (W : WX) (hr : RoomG 3 q.A) (tk : Takes (mkX P w K mg base N_is_form_for (defScope (top 12)) q) W) (hp : PassesOwn (model P w) q.A (enX (defScope (top 12)) q) q.xe) :
    PFSs (tx K ct) (mkX P w K mg base N_is_form_for (defScope (top 12)) q) W (defBody (top 12)) S_is_form_for :=
  have C : Cn (tx K ct) (mkX P w K mg base N_is_form_for (defScope (top 12)) q) W 3 := ⟨rfl, hr, tk, rfl, sc_is_form_for.nd⟩
  (pfs_one (pfs_ret (pf_and (pf_callB (b_isi C) (isEX_ok B.txo B.tex) B.g_isinstance bt_isinstance (pfa_cons (pf_var 1) (pfa_cons (pf_ty B.g_tuple bt_tuple) pfa_nil))) (pf_and (pf_cmp (o_eq C) eq_ok (pf_callB (b_len C) len_ok B.g_len bt_len (pfa_cons (pf_var 1) pfa_nil)) (pf_add false C.hK (pf_var 0) pf_int) (nomark _)) (pf_one (pf_callD false hD_are_counts C (pfa_cons (pf_var 1) pfa_nil) (len_cons len_nil)))))))
/-! check_number -/
def N_check_number : List Str := ["number", "low", "high"]
def P_check_number : List Str := ["number", "low", "high"]
def S_check_number : FS := (ifS (notF (callF false F_is_between [] (consA (varF 0) (consA (varF 1) (consA (varF 2) nilA))))) (raiseS 1 (varF 0)) skipS)
def F_check_number : Fn := bodyF 0 S_check_number
theorem sc_check_number : FnScope N_check_number P_check_number (defScope (top 13)) := ⟨rfl, rfl, rfl, by decide +kernel, rfl, by decide +kernel, by decide +kernel⟩
theorem b_check_number (B : Tb P K mg ct) (hD_is_between : Def (tx K ct) P w K mg base 2 "is_between" ["value", "low", "high"] [] F_is_between) (q : Qx) (W : WX) (hr : RoomG 2 q.A) (tk : Takes (mkX P w K mg base N_check_number (defScope (top 13)) q) W) (hp : PassesOwn (model P w) q.A (enX (defScope (top 13)) q) q.xe) :
    PFSs (tx K ct) (mkX P w K mg base N_check_number (defScope (top 13)) q) W (defBody (top 13)) S_check_number :=
  have C : Cn (tx K ct) (mkX P w K mg base N_check_number (defScope (top 13)) q) W 2 := ⟨rfl, hr, tk, rfl, sc_check_number.nd⟩
  (pfs_one (pfs_if (pft_not (pft_of C.hK (pf_callD false hD_is_between C (pfa_cons (pf_var 0) (pfa_cons (pf_var 1) (pfa_cons (pf_var 2) pfa_nil))) (len_cons (len_cons (len_cons len_nil)))))) (pfs_one (pfs_raise (c := 1) C.calm B.e_InvalidNumber.choose_spec rfl C.hr C.tk B.m_InvalidNumber B.g_super (pf_var 0))) pfs_nil))
/-! check_many -/
def N_check_many : List Str := ["many"]
def P_check_many : List Str := ["many"]
def S_check_many : FS := (exprS (callF false F_check_number [] (consA (varF 0) (consA (litF (.int 0)) (consA (litF (.int 3)) nilA)))))
def F_check_many : Fn := bodyF 0 S_check_many
theorem sc_check_many : FnScope N_check_many P_check_many (defScope (top 14)) := ⟨rfl, rfl, rfl, by decide +kernel, rfl, by decide +kernel, by decide +kernel⟩
theorem b_check_many (B : Tb P K mg ct) (hD_check_number : Def (tx K ct) P w K mg base 3 "check_number" ["number", "low", "high"] [] F_check_number) (q : Qx) (W : WX) (hr : RoomG 3 q.A) (tk : Takes (mkX P w K mg base N_check_many (defScope (top 14)) q) W) (hp : PassesOwn (model P w) q.A (enX (defScope (top 14)) q) q.xe) :
    PFSs (tx K ct) (mkX P w K mg base N_check_many (defScope (top 14)) q) W (defBody (top 14)) S_check_many :=
  have C : Cn (tx K ct) (mkX P w K mg base N_check_many (defScope (top 14)) q) W 3 := ⟨rfl, hr, tk, rfl, sc_check_many.nd⟩
  (pfs_one (pfs_expr (pf_callD false hD_check_number C (pfa_cons (pf_var 0) (pfa_cons pf_int (pfa_cons (pf_gint B.c_MOST_UNKNOWNS.choose_spec) pfa_nil))) (len_cons (len_cons (len_cons len_nil))))))
/-! check_point -/
def N_check_point : List Str := ["many", "point"]
def P_check_point : List Str := ["many", "point"]
def S_check_point : FS := (ifS (notF (callF false F_is_point [] (consA (varF 0) (consA (varF 1) nilA)))) (raiseS 3 (varF 1)) skipS)
def F_check_point : Fn := bodyF 0 S_check_point
theorem sc_check_point : FnScope N_check_point P_check_point (defScope (top 15)) := ⟨rfl, rfl, rfl, by decide +kernel, rfl, by decide +kernel, by decide +kernel⟩
theorem b_check_point (B : Tb P K mg ct) (hD_is_point : Def (tx K ct) P w K mg base 4 "is_point" ["many", "value"] [] F_is_point) (q : Qx) (W : WX) (hr : RoomG 4 q.A) (tk : Takes (mkX P w K mg base N_check_point (defScope (top 15)) q) W) (hp : PassesOwn (model P w) q.A (enX (defScope (top 15)) q) q.xe) :
    PFSs (tx K ct) (mkX P w K mg base N_check_point (defScope (top 15)) q) W (defBody (top 15)) S_check_point :=
  have C : Cn (tx K ct) (mkX P w K mg base N_check_point (defScope (top 15)) q) W 4 := ⟨rfl, hr, tk, rfl, sc_check_point.nd⟩
  (pfs_one (pfs_if (pft_not (pft_of C.hK (pf_callD false hD_is_point C (pfa_cons (pf_var 0) (pfa_cons (pf_var 1) pfa_nil)) (len_cons (len_cons len_nil))))) (pfs_one (pfs_raise (c := 3) C.calm B.e_InvalidPoint.choose_spec rfl C.hr C.tk B.m_InvalidPoint B.g_super (pf_var 1))) pfs_nil))
/-! is_form -/
def N_is_form : List Str := ["many", "value"]
def P_is_form : List Str := ["many", "value"]
def S_is_form : FS := (seqS (exprS (callF false F_check_many [] (consA (varF 0) nilA))) (retS (callF false F_is_form_for [] (consA (varF 0) (consA (varF 1) nilA)))))
def F_is_form : Fn := bodyF 0 S_is_form
theorem sc_is_form : FnScope N_is_form P_is_form (defScope (top 17)) := ⟨rfl, rfl, rfl, by decide +kernel, rfl, by decide +kernel, by decide +kernel⟩
theorem b_is_form (B : Tb P K mg ct) (hD_check_many : Def (tx K ct) P w K mg base 4 "check_many" ["many"] [] F_check_many) (hD_is_form_for : Def (tx K ct) P w K mg base 4 "is_form_for" ["many", "value"] [] F_is_form_for) (q : Qx) (W : WX) (hr : RoomG 4 q.A) (tk : Takes (mkX P w K mg base N_is_form (defScope (top 17)) q) W) (hp : PassesOwn (model P w) q.A (enX (defScope (top 17)) q) q.xe) :
    PFSs (tx K ct) (mkX P w K mg base N_is_form (defScope (top 17)) q) W (defBody (top 17)) S_is_form :=
  have C : Cn (tx K ct) (mkX P w K mg base N_is_form (defScope (top 17)) q) W 4 := ⟨rfl, hr, tk, rfl, sc_is_form.nd⟩
  (pfs_cons (pfs_expr (pf_callD false hD_check_many C (pfa_cons (pf_var 0) pfa_nil) (len_cons len_nil))) (pfs_one (pfs_ret (pf_callD false hD_is_form_for C (pfa_cons (pf_var 0) (pfa_cons (pf_var 1) pfa_nil)) (len_cons (len_cons len_nil))))))
/-! is_any_form -/
def N_is_any_form : List Str := ["value"]
def P_is_any_form : List Str := ["value"]
def S_is_any_form : FS := (retS (andF (callBF (isEX nC subB ownB exB) (consA (varF 0) (consA (litF (.ty "tuple")) nilA))) (andF (chainF (leX) (leX) (litF (.int 1)) (callBF lenX (consA (varF 0) nilA)) (op2F (addX false) (litF (.int 3)) (litF (.int 1)))) (callF false F_is_form_for [] (consA (op2F subX (callBF lenX (consA (varF 0) nilA)) (litF (.int 1))) (consA (varF 0) nilA))))))
def F_is_any_form : Fn := bodyF 0 S_is_any_form
theorem sc_is_any_form : FnScope N_is_any_form P_is_any_form (defScope (top 18)) := ⟨rfl, rfl, rfl, by decide +kernel, rfl, by decide +kernel, by decide +kernel⟩
theorem b_is_any_form (B : Tb P K mg ct) (hD_is_form_for : Def (tx K ct) P w K mg base 4 "is_form_for" ["many", "value"] [] F_is_form_for) (q : Qx) (W : WX) (hr : RoomG 4 q.A) (tk : Takes (mkX P w K mg base N_is_any_form (defScope (top 18)) q) W) (hp : PassesOwn (model P w) q.A (enX (defScope (top 18)) q) q.xe) :
    PFSs (tx K ct) (mkX P w K mg base N_is_any_form (defScope (top 18)) q) W (defBody (top 18)) S_is_any_form :=
  have C : Cn (tx K ct) (mkX P w K mg base N_is_any_form (defScope (top 18)) q) W 4 := ⟨rfl, hr, tk, rfl, sc_is_any_form.nd⟩
  (pfs_one (pfs_ret (pf_and (pf_callB (b_isi C) (isEX_ok B.txo B.tex) B.g_isinstance bt_isinstance (pfa_cons (pf_var 0) (pfa_cons (pf_ty B.g_tuple bt_tuple) pfa_nil))) (pf_and (pf_chain op_le op_le int2B_ok int2B_ok pf_int (pf_callB (b_len C) len_ok B.g_len bt_len (pfa_cons (pf_var 0) pfa_nil)) (pf_add false C.hK (pf_gint B.c_MOST_UNKNOWNS.choose_spec) pf_int)) (pf_one (pf_callD false hD_is_form_for C (pfa_cons (pf_sub (pf_callB (b_len C) len_ok B.g_len bt_len (pfa_cons (pf_var 0) pfa_nil)) pf_int) (pfa_cons (pf_var 0) pfa_nil)) (len_cons (len_cons len_nil))))))))
/-! check_any_form -/
def N_check_any_form : List Str := ["form"]
def P_check_any_form : List Str := ["form"]
def S_check_any_form : FS := (ifS (notF (callF false F_is_any_form [] (consA (varF 0) nilA))) (raiseS 2 (varF 0)) skipS)
def F_check_any_form : Fn := bodyF 0 S_check_any_form
theorem sc_check_any_form : FnScope N_check_any_form P_check_any_form (defScope (top 19)) := ⟨rfl, rfl, rfl, by decide +kernel, rfl, by decide +kernel, by decide +kernel⟩
theorem b_check_any_form (B : Tb P K mg ct) (hD_is_any_form : Def (tx K ct) P w K mg base 5 "is_any_form" ["value"] [] F_is_any_form) (q : Qx) (W : WX) (hr : RoomG 5 q.A) (tk : Takes (mkX P w K mg base N_check_any_form (defScope (top 19)) q) W) (hp : PassesOwn (model P w) q.A (enX (defScope (top 19)) q) q.xe) :
    PFSs (tx K ct) (mkX P w K mg base N_check_any_form (defScope (top 19)) q) W (defBody (top 19)) S_check_any_form :=
  have C : Cn (tx K ct) (mkX P w K mg base N_check_any_form (defScope (top 19)) q) W 5 := ⟨rfl, hr, tk, rfl, sc_check_any_form.nd⟩
  (pfs_one (pfs_if (pft_not (pft_of C.hK (pf_callD false hD_is_any_form C (pfa_cons (pf_var 0) pfa_nil) (len_cons len_nil)))) (pfs_one (pfs_raise (c := 2) C.calm B.e_InvalidForm.choose_spec rfl C.hr C.tk B.m_InvalidForm B.g_super (pf_var 0))) pfs_nil))
/-! plain -/
def N_plain : List Str := ["many", "number"]
def P_plain : List Str := ["many", "number"]
def S_plain : FS := (retS (op2F (addX false) (tupF (consA (varF 1) nilA)) (op2F (mulX false) (tupF (consA (litF (.int 0)) nilA)) (varF 0))))
def F_plain : Fn := bodyF 0 S_plain
theorem sc_plain : FnScope N_plain P_plain (defScope (top 20)) := ⟨rfl, rfl, rfl, by decide +kernel, rfl, by decide +kernel, by decide +kernel⟩
theorem b_plain (B : Tb P K mg ct) (q : Qx) (W : WX) (hr : RoomG 0 q.A) (tk : Takes (mkX P w K mg base N_plain (defScope (top 20)) q) W) (hp : PassesOwn (model P w) q.A (enX (defScope (top 20)) q) q.xe) :
    PFSs (tx K ct) (mkX P w K mg base N_plain (defScope (top 20)) q) W (defBody (top 20)) S_plain :=
  have C : Cn (tx K ct) (mkX P w K mg base N_plain (defScope (top 20)) q) W 0 := ⟨rfl, hr, tk, rfl, sc_plain.nd⟩
  (pfs_one (pfs_ret (pf_add false C.hK (pf_tup (pfa_cons (pf_var 1) pfa_nil)) (pf_mul false C.hK (pf_tup (pfa_cons pf_int pfa_nil)) (pf_var 0)))))
/-! value_at -/
def N_value_at : List Str := ["form", "point", "found", "number", "count"]
def P_value_at : List Str := ["form", "point"]
def B0_value_at : FS := (setS 2 (op2F (addX false) (varF 2) (op2F (mulX false) (varF 3) (varF 4))))
def S_value_at : FS := (seqS (setS 2 (op2F ixX (varF 0) (litF (.int 0)))) (seqS (forS (tupG 2 (consG (nameG 3) (consG (nameG 4) nilG))) (zipSF (consA (slF false (varF 0) (intF (litF (.int 1))) (litF .non)) (consA (varF 1) nilA))) B0_value_at) (retS (varF 2))))
def F_value_at : Fn := bodyF 3 S_value_at
theorem sc_value_at : FnScope N_value_at P_value_at (defScope (top 21)) := ⟨rfl, rfl, rfl, by decide +kernel, rfl, by decide +kernel, by decide +kernel⟩
theorem b_value_at (B : Tb P K mg ct) (q : Qx) (W : WX) (hr : RoomG 0 q.A) (tk : Takes (mkX P w K mg base N_value_at (defScope (top 21)) q) W) (hp : PassesOwn (model P w) q.A (enX (defScope (top 21)) q) q.xe) :
    PFSs (tx K ct) (mkX P w K mg base N_value_at (defScope (top 21)) q) W (defBody (top 21)) S_value_at :=
  have C : Cn (tx K ct) (mkX P w K mg base N_value_at (defScope (top 21)) q) W 0 := ⟨rfl, hr, tk, rfl, sc_value_at.nd⟩
  (pfs_cons (pfs_set (i := 2) C.nd (pf_ix C.hK (pf_var 0) pf_int)) (pfs_cons (pfs_for hp C.calm (pfi_zipS C.hK B.g_zip (pfa_cons (pf_slice false C.hK (pf_var 0) (pfo_some pf_int) pfo_none) (pfa_cons (pf_var 1) pfa_nil))) (pfg_tup C.hK C.calm (pfgs_cons (pfg_name (i := 3) C.nd) (pfgs_cons (pfg_name (i := 4) C.nd) pfgs_nil))) (pfs_one (pfs_set (i := 2) C.nd (pf_add false C.hK (pf_var 2) (pf_mul false C.hK (pf_var 3) (pf_var 4)))))) (pfs_one (pfs_ret (pf_var 2)))))
/-! form_sum -/
def N_form_sum : List Str := ["one", "other", "low", "high"]
def P_form_sum : List Str := ["one", "other"]
def E0_form_sum : FE := (op2F (addX false) (varF 2) (varF 3))
def S_form_sum : FS := (retS (callBF tupleX (consA (lcF false [2, 3] (tupG 2 (consG (nameG 2) (consG (nameG 3) nilG))) (zipSF (consA (varF 0) (consA (varF 1) nilA))) yesF E0_form_sum) nilA)))
def F_form_sum : Fn := bodyF 2 S_form_sum
theorem sc_form_sum : FnScope N_form_sum P_form_sum (defScope (top 22)) := ⟨rfl, rfl, rfl, by decide +kernel, rfl, by decide +kernel, by decide +kernel⟩
theorem b_form_sum (B : Tb P K mg ct) (q : Qx) (W : WX) (hr : RoomG 0 q.A) (tk : Takes (mkX P w K mg base N_form_sum (defScope (top 22)) q) W) (hp : PassesOwn (model P w) q.A (enX (defScope (top 22)) q) q.xe) :
    PFSs (tx K ct) (mkX P w K mg base N_form_sum (defScope (top 22)) q) W (defBody (top 22)) S_form_sum :=
  have C : Cn (tx K ct) (mkX P w K mg base N_form_sum (defScope (top 22)) q) W 0 := ⟨rfl, hr, tk, rfl, sc_form_sum.nd⟩
  (pfs_one (pfs_ret (pf_callTy (b_tuple C) tuple_ok B.g_tuple bt_tuple (pfa_cons (pf_lc (own := [("low", 2), ("high", 3)]) false C.calm C.nd (pfi_zipS C.hK B.g_zip (pfa_cons (pf_var 0) (pfa_cons (pf_var 1) pfa_nil))) (blkOk_by (by first | decide +kernel | rfl)) (fun _ _ _ _ _ => (pfg_tup (Cn.blk C _ _ _ _ _).hK (Cn.blk C _ _ _ _ _).calm (pfgs_cons (pfg_name (i := 2) (Cn.blk C _ _ _ _ _).nd) (pfgs_cons (pfg_name (i := 3) (Cn.blk C _ _ _ _ _).nd) pfgs_nil)))) (fun _ _ _ _ _ => pts_yes) (fun _ _ _ _ _ => (pf_add false (Cn.blk C _ _ _ _ _).hK (pf_var 2) (pf_var 3)))) pfa_nil))))
/-! form_times -/
def N_form_times : List Str := ["number", "form", "item"]
def P_form_times : List Str := ["number", "form"]
def E0_form_times : FE := (op2F (mulX false) (varF 0) (varF 2))
def S_form_times : FS := (retS (callBF tupleX (consA (lcF false [2] (nameG 2) (iterF (varF 1)) yesF E0_form_times) nilA)))
def F_form_times : Fn := bodyF 1 S_form_times
theorem sc_form_times : FnScope N_form_times P_form_times (defScope (top 23)) := ⟨rfl, rfl, rfl, by decide +kernel, rfl, by decide +kernel, by decide +kernel⟩
theorem b_form_times (B : Tb P K mg ct) (q : Qx) (W : WX) (hr : RoomG 0 q.A) (tk : Takes (mkX P w K mg base N_form_times (defScope (top 23)) q) W) (hp : PassesOwn (model P w) q.A (enX (defScope (top 23)) q) q.xe) :
    PFSs (tx K ct) (mkX P w K mg base N_form_times (defScope (top 23)) q) W (defBody (top 23)) S_form_times :=
  have C : Cn (tx K ct) (mkX P w K mg base N_form_times (defScope (top 23)) q) W 0 := ⟨rfl, hr, tk, rfl, sc_form_times.nd⟩
  (pfs_one (pfs_ret (pf_callTy (b_tuple C) tuple_ok B.g_tuple bt_tuple (pfa_cons (pf_lc (own := [("item", 2)]) false C.calm C.nd (pfi_seq C.hK (pf_var 1)) (blkOk_by (by first | decide +kernel | rfl)) (fun _ _ _ _ _ => (pfg_name (i := 2) (Cn.blk C _ _ _ _ _).nd)) (fun _ _ _ _ _ => pts_yes) (fun _ _ _ _ _ => (pf_mul false (Cn.blk C _ _ _ _ _).hK (pf_var 0) (pf_var 2)))) pfa_nil))))
/-! form_inserted -/
def N_form_inserted : List Str := ["form", "many", "forms", "found", "number", "given"]
def P_form_inserted : List Str := ["form", "many", "forms"]
def B0_form_inserted : FS := (setS 3 (callF false F_form_sum [] (consA (varF 3) (consA (callF false F_form_times [] (consA (varF 4) (consA (varF 5) nilA))) nilA))))
def S_form_inserted : FS := (seqS (setS 3 (callF false F_plain [] (consA (varF 1) (consA (op2F ixX (varF 0) (litF (.int 0))) nilA)))) (seqS (forS (tupG 2 (consG (nameG 4) (consG (nameG 5) nilG))) (zipSF (consA (slF false (varF 0) (intF (litF (.int 1))) (litF .non)) (consA (varF 2) nilA))) B0_form_inserted) (retS (varF 3))))
def F_form_inserted : Fn := bodyF 3 S_form_inserted
theorem sc_form_inserted : FnScope N_form_inserted P_form_inserted (defScope (top 24)) := ⟨rfl, rfl, rfl, by decide +kernel, rfl, by decide +kernel, by decide +kernel⟩
theorem b_form_inserted (B : Tb P K mg ct) (hD_plain : Def (tx K ct) P w K mg base 1 "plain" ["many", "number"] [] F_plain) (hD_form_sum : Def (tx K ct) P w K mg base 1 "form_sum" ["one", "other"] [] F_form_sum) (hD_form_times : Def (tx K ct) P w K mg base 1 "form_times" ["number", "form"] [] F_form_times) (q : Qx) (W : WX) (hr : RoomG 1 q.A) (tk : Takes (mkX P w K mg base N_form_inserted (defScope (top 24)) q) W) (hp : PassesOwn (model P w) q.A (enX (defScope (top 24)) q) q.xe) :
    PFSs (tx K ct) (mkX P w K mg base N_form_inserted (defScope (top 24)) q) W (defBody (top 24)) S_form_inserted :=
  have C : Cn (tx K ct) (mkX P w K mg base N_form_inserted (defScope (top 24)) q) W 1 := ⟨rfl, hr, tk, rfl, sc_form_inserted.nd⟩
  (pfs_cons (pfs_set (i := 3) C.nd (pf_callD false hD_plain C (pfa_cons (pf_var 1) (pfa_cons (pf_ix C.hK (pf_var 0) pf_int) pfa_nil)) (len_cons (len_cons len_nil)))) (pfs_cons (pfs_for hp C.calm (pfi_zipS C.hK B.g_zip (pfa_cons (pf_slice false C.hK (pf_var 0) (pfo_some pf_int) pfo_none) (pfa_cons (pf_var 2) pfa_nil))) (pfg_tup C.hK C.calm (pfgs_cons (pfg_name (i := 4) C.nd) (pfgs_cons (pfg_name (i := 5) C.nd) pfgs_nil))) (pfs_one (pfs_set (i := 3) C.nd (pf_callD false hD_form_sum C (pfa_cons (pf_var 3) (pfa_cons (pf_callD false hD_form_times C (pfa_cons (pf_var 4) (pfa_cons (pf_var 5) pfa_nil)) (len_cons (len_cons len_nil))) pfa_nil)) (len_cons (len_cons len_nil)))))) (pfs_one (pfs_ret (pf_var 3)))))
/-! value -/
def N_value : List Str := ["form", "point"]
def P_value : List Str := ["form", "point"]
def S_value : FS := (seqS (exprS (callF false F_check_any_form [] (consA (varF 0) nilA))) (seqS (exprS (callF false F_check_point [] (consA (op2F subX (callBF lenX (consA (varF 0) nilA)) (litF (.int 1))) (consA (varF 1) nilA)))) (retS (callF false F_value_at [] (consA (varF 0) (consA (varF 1) nilA))))))
def F_value : Fn := bodyF 0 S_value
theorem sc_value : FnScope N_value P_value (defScope (top 25)) := ⟨rfl, rfl, rfl, by decide +kernel, rfl, by decide +kernel, by decide +kernel⟩
theorem b_value (B : Tb P K mg ct) (hD_check_any_form : Def (tx K ct) P w K mg base 6 "check_any_form" ["form"] [] F_check_any_form) (hD_check_point : Def (tx K ct) P w K mg base 5 "check_point" ["many", "point"] [] F_check_point) (hD_value_at : Def (tx K ct) P w K mg base 1 "value_at" ["form", "point"] [] F_value_at) (q : Qx) (W : WX) (hr : RoomG 6 q.A) (tk : Takes (mkX P w K mg base N_value (defScope (top 25)) q) W) (hp : PassesOwn (model P w) q.A (enX (defScope (top 25)) q) q.xe) :
    PFSs (tx K ct) (mkX P w K mg base N_value (defScope (top 25)) q) W (defBody (top 25)) S_value :=
  have C : Cn (tx K ct) (mkX P w K mg base N_value (defScope (top 25)) q) W 6 := ⟨rfl, hr, tk, rfl, sc_value.nd⟩
  (pfs_cons (pfs_expr (pf_callD false hD_check_any_form C (pfa_cons (pf_var 0) pfa_nil) (len_cons len_nil))) (pfs_cons (pfs_expr (pf_callD false hD_check_point C (pfa_cons (pf_sub (pf_callB (b_len C) len_ok B.g_len bt_len (pfa_cons (pf_var 0) pfa_nil)) pf_int) (pfa_cons (pf_var 1) pfa_nil)) (len_cons (len_cons len_nil)))) (pfs_one (pfs_ret (pf_callD false hD_value_at C (pfa_cons (pf_var 0) (pfa_cons (pf_var 1) pfa_nil)) (len_cons (len_cons len_nil)))))))
/-! check_forms -/
def N_check_forms : List Str := ["many", "forms", "wanted", "item"]
def P_check_forms : List Str := ["many", "forms", "wanted"]
def T0_check_forms : FE := (notF (callF false F_is_form_for [] (consA (varF 0) (consA (varF 3) nilA))))
def E1_check_forms : FE := (varF 3)
def S_check_forms : FS := (seqS (ifS (orF (notF (callBF (isEX nC subB ownB exB) (consA (varF 1) (consA (litF (.ty "list")) nilA)))) (op2F (eqX true) (callBF lenX (consA (varF 1) nilA)) (varF 2))) (raiseS 4 (varF 1)) skipS) (ifS (op2F (eqX true) (lcF false [3] (nameG 3) (iterF (varF 1)) T0_check_forms E1_check_forms) (lstF false nilA)) (raiseS 4 (varF 1)) skipS))
def F_check_forms : Fn := bodyF 1 S_check_forms
theorem sc_check_forms : FnScope N_check_forms P_check_forms (defScope (top 26)) := ⟨rfl, rfl, rfl, by decide +kernel, rfl, by decide +kernel, by decide +kernel⟩
theorem b_check_forms (B : Tb P K mg ct) (hD_is_form_for : Def (tx K ct) P w K mg base 4 "is_form_for" ["many", "value"] [] F_is_form_for) (q : Qx) (W : WX) (hr : RoomG 4 q.A) (tk : Takes (mkX P w K mg base N_check_forms (defScope (top 26)) q) W) (hp : PassesOwn (model P w) q.A (enX (defScope (top 26)) q) q.xe) :
    PFSs (tx K ct) (mkX P w K mg base N_check_forms (defScope (top 26)) q) W (defBody (top 26)) S_check_forms :=
  have C : Cn (tx K ct) (mkX P w K mg base N_check_forms (defScope (top 26)) q) W 4 := ⟨rfl, hr, tk, rfl, sc_check_forms.nd⟩
  (pfs_cons (pfs_if (pft_w (pfw_or (pft_not (pft_of C.hK (pf_callB (b_isi C) (isEX_ok B.txo B.tex) B.g_isinstance bt_isinstance (pfa_cons (pf_var 1) (pfa_cons (pf_ty B.g_list bt_list) pfa_nil))))) (pfw_or1 (pft_cmp (o_ne C) ne_ok eqX_bl (pf_callB (b_len C) len_ok B.g_len bt_len (pfa_cons (pf_var 1) pfa_nil)) (pf_var 2) (nomark _))))) (pfs_one (pfs_raise (c := 4) C.calm B.e_InvalidList.choose_spec rfl C.hr C.tk B.m_InvalidList B.g_super (pf_var 1))) pfs_nil) (pfs_one (pfs_if (pft_cmp (o_ne C) ne_ok eqX_bl (pf_lc (own := [("item", 3)]) false C.calm C.nd (pfi_seq C.hK (pf_var 1)) (blkOk_by (by first | decide +kernel | rfl)) (fun _ _ _ _ _ => (pfg_name (i := 3) (Cn.blk C _ _ _ _ _).nd)) (fun _ _ _ _ _ => (pts_1 (pft_not (pft_of (Cn.blk C _ _ _ _ _).hK (pf_callD false hD_is_form_for (Cn.blk C _ _ _ _ _) (pfa_cons (pf_var 0) (pfa_cons (pf_var 3) pfa_nil)) (len_cons (len_cons len_nil))))))) (fun _ _ _ _ _ => (pf_var 3))) (pf_lst false pfa_nil) (nomark _)) (pfs_one (pfs_raise (c := 4) C.calm B.e_InvalidList.choose_spec rfl C.hr C.tk B.m_InvalidList B.g_super (pf_var 1))) pfs_nil)))
/-! inserted -/
def N_inserted : List Str := ["form", "many", "forms"]
def P_inserted : List Str := ["form", "many", "forms"]
def S_inserted : FS := (seqS (exprS (callF false F_check_any_form [] (consA (varF 0) nilA))) (seqS (exprS (callF false F_check_many [] (consA (varF 1) nilA))) (seqS (exprS (callF false F_check_forms [] (consA (varF 1) (consA (varF 2) (consA (op2F subX (callBF lenX (consA (varF 0) nilA)) (litF (.int 1))) nilA))))) (retS (callF false F_form_inserted [] (consA (varF 0) (consA (varF 1) (consA (varF 2) nilA))))))))
def F_inserted : Fn := bodyF 0 S_inserted
theorem sc_inserted : FnScope N_inserted P_inserted (defScope (top 27)) := ⟨rfl, rfl, rfl, by decide +kernel, rfl, by decide +kernel, by decide +kernel⟩
theorem b_inserted (B : Tb P K mg ct) (hD_check_any_form : Def (tx K ct) P w K mg base 6 "check_any_form" ["form"] [] F_check_any_form) (hD_check_many : Def (tx K ct) P w K mg base 4 "check_many" ["many"] [] F_check_many) (hD_check_forms : Def (tx K ct) P w K mg base 5 "check_forms" ["many", "forms", "wanted"] [] F_check_forms) (hD_form_inserted : Def (tx K ct) P w K mg base 2 "form_inserted" ["form", "many", "forms"] [] F_form_inserted) (q : Qx) (W : WX) (hr : RoomG 6 q.A) (tk : Takes (mkX P w K mg base N_inserted (defScope (top 27)) q) W) (hp : PassesOwn (model P w) q.A (enX (defScope (top 27)) q) q.xe) :
    PFSs (tx K ct) (mkX P w K mg base N_inserted (defScope (top 27)) q) W (defBody (top 27)) S_inserted :=
  have C : Cn (tx K ct) (mkX P w K mg base N_inserted (defScope (top 27)) q) W 6 := ⟨rfl, hr, tk, rfl, sc_inserted.nd⟩
  (pfs_cons (pfs_expr (pf_callD false hD_check_any_form C (pfa_cons (pf_var 0) pfa_nil) (len_cons len_nil))) (pfs_cons (pfs_expr (pf_callD false hD_check_many C (pfa_cons (pf_var 1) pfa_nil) (len_cons len_nil))) (pfs_cons (pfs_expr (pf_callD false hD_check_forms C (pfa_cons (pf_var 1) (pfa_cons (pf_var 2) (pfa_cons (pf_sub (pf_callB (b_len C) len_ok B.g_len bt_len (pfa_cons (pf_var 0) pfa_nil)) pf_int) pfa_nil))) (len_cons (len_cons (len_cons len_nil))))) (pfs_one (pfs_ret (pf_callD false hD_form_inserted C (pfa_cons (pf_var 0) (pfa_cons (pf_var 1) (pfa_cons (pf_var 2) pfa_nil))) (len_cons (len_cons (len_cons len_nil)))))))))
/-! _law_hash -/
def N__law_hash : List Str := ["_law_seed", "_law_index", "_law_mixed"]
def P__law_hash : List Str := ["_law_seed", "_law_index"]
def S__law_hash : FS := (seqS (setS 2 (op2F modX (callBF intX (consA (op2F (addX false) (op2F (addX false) (op2F (addX false) (op2F (mulX false) (varF 0) (litF (.int 1299709))) (op2F (mulX false) (op2F (mulX false) (litF (.int 104729)) (varF 1)) (varF 1))) (op2F (mulX false) (litF (.int 31)) (varF 1))) (litF (.int 7))) nilA)) (litF (.int 2147483629)))) (seqS (setS 2 (op2F modX (callBF intX (consA (op2F (addX false) (op2F (addX false) (op2F (mulX false) (varF 2) (varF 2)) (op2F (mulX false) (litF (.int 48271)) (varF 1))) (litF (.int 15485863))) nilA)) (litF (.int 2147483587)))) (retS (op2F modX (callBF intX (consA (op2F (mulX false) (varF 2) (litF (.int 69621))) nilA)) (litF (.int 2147483647))))))
def F__law_hash : Fn := bodyF 1 S__law_hash
theorem sc__law_hash : FnScope N__law_hash P__law_hash (defScope (top 29)) := ⟨rfl, rfl, rfl, by decide +kernel, rfl, by decide +kernel, by decide +kernel⟩
theorem b__law_hash (B : Tb P K mg ct) (q : Qx) (W : WX) (hr : RoomG 0 q.A) (tk : Takes (mkX P w K mg base N__law_hash (defScope (top 29)) q) W) (hp : PassesOwn (model P w) q.A (enX (defScope (top 29)) q) q.xe) :
    PFSs (tx K ct) (mkX P w K mg base N__law_hash (defScope (top 29)) q) W (defBody (top 29)) S__law_hash :=
  have C : Cn (tx K ct) (mkX P w K mg base N__law_hash (defScope (top 29)) q) W 0 := ⟨rfl, hr, tk, rfl, sc__law_hash.nd⟩
  (pfs_cons (pfs_set (i := 2) C.nd (pf_mod (pf_callTy (b_int C) int_ok B.g_int bt_int (pfa_cons (pf_add false C.hK (pf_add false C.hK (pf_add false C.hK (pf_mul false C.hK (pf_var 0) pf_int) (pf_mul false C.hK (pf_mul false C.hK pf_int (pf_var 1)) (pf_var 1))) (pf_mul false C.hK pf_int (pf_var 1))) pf_int) pfa_nil)) pf_int)) (pfs_cons (pfs_set (i := 2) C.nd (pf_mod (pf_callTy (b_int C) int_ok B.g_int bt_int (pfa_cons (pf_add false C.hK (pf_add false C.hK (pf_mul false C.hK (pf_var 2) (pf_var 2)) (pf_mul false C.hK pf_int (pf_var 1))) pf_int) pfa_nil)) pf_int)) (pfs_one (pfs_ret (pf_mod (pf_callTy (b_int C) int_ok B.g_int bt_int (pfa_cons (pf_mul false C.hK (pf_var 2) pf_int) pfa_nil)) pf_int)))))
/-! _law_generator -/
def N__law_generator : List Str := ["_law_script", "_law_index", "_law_seed"]
def P__law_generator : List Str := ["_law_script", "_law_index"]
def S__law_generator : FS := (seqS (setS 2 (ifF (op2F (ltX) (varF 1) (callBF lenX (consA (varF 0) nilA))) (op2F ixX (varF 0) (varF 1)) (op2F modX (callBF sumX (consA (slF false (varF 0) (litF .non) (intF (litF (.int 1)))) nilA)) (litF (.int 1000003))))) (retS (lstF true (consA (op2F modX (callBF intX (consA (callBF maxX (consA (op2F subX (varF 2) (op2F powX (litF (.int 10)) (litF (.int 18)))) (consA (litF (.int 0)) nilA))) nilA)) (op2F powX (op2F powX (litF (.int 10)) (litF (.int 60))) (litF (.int 10)))) (consA (op2F modX (callBF intX (consA (varF 2) nilA)) (litF (.int 2147483647))) (consA (op2F (mulX false) (litF (.int 1000)) (varF 1)) nilA))))))
def F__law_generator : Fn := bodyF 1 S__law_generator
theorem sc__law_generator : FnScope N__law_generator P__law_generator (defScope (top 30)) := ⟨rfl, rfl, rfl, by decide +kernel, rfl, by decide +kernel, by decide +kernel⟩
theorem b__law_generator (B : Tb P K mg ct) (q : Qx) (W : WX) (hr : RoomG 0 q.A) (tk : Takes (mkX P w K mg base N__law_generator (defScope (top 30)) q) W) (hp : PassesOwn (model P w) q.A (enX (defScope (top 30)) q) q.xe) :
    PFSs (tx K ct) (mkX P w K mg base N__law_generator (defScope (top 30)) q) W (defBody (top 30)) S__law_generator :=
  have C : Cn (tx K ct) (mkX P w K mg base N__law_generator (defScope (top 30)) q) W 0 := ⟨rfl, hr, tk, rfl, sc__law_generator.nd⟩
  (pfs_cons (pfs_set (i := 2) C.nd (pf_if (pft_cmp op_lt int2B_ok int2_bl (pf_var 1) (pf_callB (b_len C) len_ok B.g_len bt_len (pfa_cons (pf_var 0) pfa_nil)) (nomark _)) (pf_ix C.hK (pf_var 0) (pf_var 1)) (pf_mod (pf_callB (b_sum C) sum_ok B.g_sum bt_sum (pfa_cons (pf_slice false C.hK (pf_var 0) pfo_none (pfo_some pf_int)) pfa_nil)) pf_int))) (pfs_one (pfs_ret (pf_lst true (pfa_cons (pf_mod (pf_callTy (b_int C) int_ok B.g_int bt_int (pfa_cons (pf_callB (b_max C) max_ok B.g_max bt_max (pfa_cons (pf_sub (pf_var 2) (pf_pow pf_int pf_int)) (pfa_cons pf_int pfa_nil))) pfa_nil)) (pf_pow (pf_pow pf_int pf_int) pf_int)) (pfa_cons (pf_mod (pf_callTy (b_int C) int_ok B.g_int bt_int (pfa_cons (pf_var 2) pfa_nil)) pf_int) (pfa_cons (pf_mul false C.hK pf_int (pf_var 1)) pfa_nil)))))))
/-! _law_random -/
def N__law_random : List Str := ["_law_generator_here", "_law_bound", "_law_drawn", "_law_turn"]
def P__law_random : List Str := ["_law_generator_here", "_law_bound"]
def B0__law_random : FS := (seqS (setIxS (op2F (addX false) (op2F ixX (varF 0) (litF (.int 2))) (litF (.int 1))) (varF 0) (litF (.int 2))) (setS 2 (op2F (addX false) (op2F (mulX false) (varF 2) (litF (.int 2147483587))) (callF false F__law_hash [] (consA (op2F ixX (varF 0) (litF (.int 1))) (consA (op2F ixX (varF 0) (litF (.int 2))) nilA))))))
def S__law_random : FS := (seqS (ifS (op2F (gtX) (op2F ixX (varF 0) (litF (.int 0))) (litF (.int 0))) (seqS (setS 2 (op2F modX (callBF intX (consA (op2F ixX (varF 0) (litF (.int 0))) nilA)) (varF 1))) (seqS (setIxS (op2F fdivX (op2F ixX (varF 0) (litF (.int 0))) (varF 1)) (varF 0) (litF (.int 0))) (retS (varF 2)))) skipS) (seqS (setS 2 (litF (.int 0))) (seqS (forS (nameG 3) (rng1F (consA (op2F (addX false) (litF (.int 1)) (op2F fdivX (bitsF (varF 1)) (litF (.int 30)))) nilA)) B0__law_random) (retS (op2F modX (callBF intX (consA (varF 2) nilA)) (varF 1))))))
def F__law_random : Fn := bodyF 2 S__law_random
theorem sc__law_random : FnScope N__law_random P__law_random (defScope (top 31)) := ⟨rfl, rfl, rfl, by decide +kernel, rfl, by decide +kernel, by decide +kernel⟩
theorem b__law_random (B : Tb P K mg ct) (hD__law_hash : Def (tx K ct) P w K mg base 1 "_law_hash" ["_law_seed", "_law_index"] [] F__law_hash) (q : Qx) (W : WX) (hr : RoomG 1 q.A) (tk : Takes (mkX P w K mg base N__law_random (defScope (top 31)) q) W) (hp : PassesOwn (model P w) q.A (enX (defScope (top 31)) q) q.xe) :
    PFSs (tx K ct) (mkX P w K mg base N__law_random (defScope (top 31)) q) W (defBody (top 31)) S__law_random :=
  have C : Cn (tx K ct) (mkX P w K mg base N__law_random (defScope (top 31)) q) W 1 := ⟨rfl, hr, tk, rfl, sc__law_random.nd⟩
  (pfs_cons (pfs_if (pft_cmp op_gt int2B_ok int2_bl (pf_ix C.hK (pf_var 0) pf_int) pf_int (nomark _)) (pfs_cons (pfs_set (i := 2) C.nd (pf_mod (pf_callTy (b_int C) int_ok B.g_int bt_int (pfa_cons (pf_ix C.hK (pf_var 0) pf_int) pfa_nil)) (pf_var 1))) (pfs_cons (pfs_setIx (pf_fdiv (pf_ix C.hK (pf_var 0) pf_int) (pf_var 1)) (pf_var 0) pf_int) (pfs_one (pfs_ret (pf_var 2))))) pfs_nil) (pfs_cons (pfs_set (i := 2) C.nd pf_int) (pfs_cons (pfs_for hp C.calm (pfi_range1 B.g_range (pfa_cons (pf_add false C.hK pf_int (pf_fdiv (pf_bits (pf_var 1)) pf_int)) pfa_nil)) (pfg_name (i := 3) C.nd) (pfs_cons (pfs_setIx (pf_add false C.hK (pf_ix C.hK (pf_var 0) pf_int) pf_int) (pf_var 0) pf_int) (pfs_one (pfs_set (i := 2) C.nd (pf_add false C.hK (pf_mul false C.hK (pf_var 2) pf_int) (pf_callD false hD__law_hash C (pfa_cons (pf_ix C.hK (pf_var 0) pf_int) (pfa_cons (pf_ix C.hK (pf_var 0) pf_int) pfa_nil)) (len_cons (len_cons len_nil)))))))) (pfs_one (pfs_ret (pf_mod (pf_callTy (b_int C) int_ok B.g_int bt_int (pfa_cons (pf_var 2) pfa_nil)) (pf_var 1)))))))
/-! _law_number -/
def N__law_number : List Str := ["_law_generator_here"]
def P__law_number : List Str := ["_law_generator_here"]
def S__law_number : FS := (retS (ifF (op2F (eqX false) (callF false F__law_random [] (consA (varF 0) (consA (litF (.int 5)) nilA))) (litF (.int 0))) (callF false F__law_random [] (consA (varF 0) (consA (op2F powX (litF (.int 10)) (litF (.int 30))) nilA))) (callF false F__law_random [] (consA (varF 0) (consA (litF (.int 5)) nilA)))))
def F__law_number : Fn := bodyF 0 S__law_number
theorem sc__law_number : FnScope N__law_number P__law_number (defScope (top 32)) := ⟨rfl, rfl, rfl, by decide +kernel, rfl, by decide +kernel, by decide +kernel⟩
theorem b__law_number (B : Tb P K mg ct) (hD__law_random : Def (tx K ct) P w K mg base 2 "_law_random" ["_law_generator_here", "_law_bound"] [] F__law_random) (q : Qx) (W : WX) (hr : RoomG 2 q.A) (tk : Takes (mkX P w K mg base N__law_number (defScope (top 32)) q) W) (hp : PassesOwn (model P w) q.A (enX (defScope (top 32)) q) q.xe) :
    PFSs (tx K ct) (mkX P w K mg base N__law_number (defScope (top 32)) q) W (defBody (top 32)) S__law_number :=
  have C : Cn (tx K ct) (mkX P w K mg base N__law_number (defScope (top 32)) q) W 2 := ⟨rfl, hr, tk, rfl, sc__law_number.nd⟩
  (pfs_one (pfs_ret (pf_if (pft_cmp (o_eq C) eq_ok eqX_bl (pf_callD false hD__law_random C (pfa_cons (pf_var 0) (pfa_cons pf_int pfa_nil)) (len_cons (len_cons len_nil))) pf_int (nomark _)) (pf_callD false hD__law_random C (pfa_cons (pf_var 0) (pfa_cons (pf_pow pf_int pf_int) pfa_nil)) (len_cons (len_cons len_nil))) (pf_callD false hD__law_random C (pfa_cons (pf_var 0) (pfa_cons pf_int pfa_nil)) (len_cons (len_cons len_nil))))))
/-! _law_form -/
def N__law_form : List Str := ["_law_generator_here", "_law_many", "_law_at"]
def P__law_form : List Str := ["_law_generator_here", "_law_many"]
def E0__law_form : FE := (callF false F__law_number [] (consA (varF 0) nilA))
def S__law_form : FS := (retS (callBF tupleX (consA (lcF false [2] (nameG 2) (rng1F (consA (op2F (addX false) (varF 1) (litF (.int 1))) nilA)) yesF E0__law_form) nilA)))
def F__law_form : Fn := bodyF 1 S__law_form
theorem sc__law_form : FnScope N__law_form P__law_form (defScope (top 33)) := ⟨rfl, rfl, rfl, by decide +kernel, rfl, by decide +kernel, by decide +kernel⟩
theorem b__law_form (B : Tb P K mg ct) (hD__law_number : Def (tx K ct) P w K mg base 3 "_law_number" ["_law_generator_here"] [] F__law_number) (q : Qx) (W : WX) (hr : RoomG 3 q.A) (tk : Takes (mkX P w K mg base N__law_form (defScope (top 33)) q) W) (hp : PassesOwn (model P w) q.A (enX (defScope (top 33)) q) q.xe) :
    PFSs (tx K ct) (mkX P w K mg base N__law_form (defScope (top 33)) q) W (defBody (top 33)) S__law_form :=
  have C : Cn (tx K ct) (mkX P w K mg base N__law_form (defScope (top 33)) q) W 3 := ⟨rfl, hr, tk, rfl, sc__law_form.nd⟩
  (pfs_one (pfs_ret (pf_callTy (b_tuple C) tuple_ok B.g_tuple bt_tuple (pfa_cons (pf_lc (own := [("_law_at", 2)]) false C.calm C.nd (pfi_range1 B.g_range (pfa_cons (pf_add false C.hK (pf_var 1) pf_int) pfa_nil)) (blkOk_by (by first | decide +kernel | rfl)) (fun _ _ _ _ _ => (pfg_name (i := 2) (Cn.blk C _ _ _ _ _).nd)) (fun _ _ _ _ _ => pts_yes) (fun _ _ _ _ _ => (pf_callD false hD__law_number (Cn.blk C _ _ _ _ _) (pfa_cons (pf_var 0) pfa_nil) (len_cons len_nil)))) pfa_nil))))
/-! _law_value -/
def N__law_value : List Str := ["_law_form_here", "_law_point", "_law_at"]
def P__law_value : List Str := ["_law_form_here", "_law_point"]
def E0__law_value : FE := (op2F (mulX false) (op2F ixX (varF 0) (op2F (addX false) (varF 2) (litF (.int 1)))) (op2F ixX (varF 1) (varF 2)))
def S__law_value : FS := (retS (op2F (addX false) (op2F ixX (varF 0) (litF (.int 0))) (callBF sumX (consA (lcF false [2] (nameG 2) (rng1F (consA (callBF lenX (consA (varF 1) nilA)) nilA)) yesF E0__law_value) nilA))))
def F__law_value : Fn := bodyF 1 S__law_value
theorem sc__law_value : FnScope N__law_value P__law_value (defScope (top 34)) := ⟨rfl, rfl, rfl, by decide +kernel, rfl, by decide +kernel, by decide +kernel⟩
theorem b__law_value (B : Tb P K mg ct) (q : Qx) (W : WX) (hr : RoomG 0 q.A) (tk : Takes (mkX P w K mg base N__law_value (defScope (top 34)) q) W) (hp : PassesOwn (model P w) q.A (enX (defScope (top 34)) q) q.xe) :
    PFSs (tx K ct) (mkX P w K mg base N__law_value (defScope (top 34)) q) W (defBody (top 34)) S__law_value :=
  have C : Cn (tx K ct) (mkX P w K mg base N__law_value (defScope (top 34)) q) W 0 := ⟨rfl, hr, tk, rfl, sc__law_value.nd⟩
  (pfs_one (pfs_ret (pf_add false C.hK (pf_ix C.hK (pf_var 0) pf_int) (pf_callB (b_sum C) sum_ok B.g_sum bt_sum (pfa_cons (pf_lc (own := [("_law_at", 2)]) false C.calm C.nd (pfi_range1 B.g_range (pfa_cons (pf_callB (b_len C) len_ok B.g_len bt_len (pfa_cons (pf_var 1) pfa_nil)) pfa_nil)) (blkOk_by (by first | decide +kernel | rfl)) (fun _ _ _ _ _ => (pfg_name (i := 2) (Cn.blk C _ _ _ _ _).nd)) (fun _ _ _ _ _ => pts_yes) (fun _ _ _ _ _ => (pf_mul false (Cn.blk C _ _ _ _ _).hK (pf_ix (Cn.blk C _ _ _ _ _).hK (pf_var 0) (pf_add false (Cn.blk C _ _ _ _ _).hK (pf_var 2) pf_int)) (pf_ix (Cn.blk C _ _ _ _ _).hK (pf_var 1) (pf_var 2))))) pfa_nil)))))
/-! _law_good -/
def N__law_good : List Str := ["_law_generator_here", "_law_many", "_law_other", "_law_form_here", "_law_forms", "_law_at", "_law_given", "_law_found", "_law_due", "_law_place", "_law_bound", "_law_point", "_law_values", "_law_one", "_law_near", "_law_wrong", "_law_bad"]
def P__law_good : List Str := ["_law_generator_here"]
def E0__law_good : FE := (callF false F__law_form [] (consA (varF 0) (consA (varF 2) nilA)))
def E1__law_good : FE := (op2F (mulX false) (op2F ixX (varF 3) (op2F (addX false) (varF 5) (litF (.int 1)))) (op2F ixX (op2F ixX (varF 4) (varF 5)) (litF (.int 0))))
def E2__law_good : FE := (op2F (mulX false) (op2F ixX (varF 3) (op2F (addX false) (varF 5) (litF (.int 1)))) (op2F ixX (op2F ixX (varF 4) (varF 5)) (op2F (addX false) (varF 9) (litF (.int 1)))))
def E3__law_good : FE := (callBF sumX (consA (lcF false [5] (nameG 5) (rng1F (consA (varF 1) nilA)) yesF E2__law_good) nilA))
def E4__law_good : FE := (callF false F__law_random [] (consA (varF 0) (consA (varF 10) nilA)))
def E5__law_good : FE := (callF false F__law_value [] (consA (varF 13) (consA (varF 11) nilA)))
def B6__law_good : FS := (seqS (setS 11 (lcF false [5] (nameG 5) (rng1F (consA (varF 2) nilA)) yesF E4__law_good)) (seqS (setS 12 (lcF false [13] (nameG 13) (iterF (varF 4)) yesF E5__law_good)) (ifS (orF (op2F (eqX true) (callF false F_value [] (consA (varF 7) (consA (varF 11) nilA))) (callF false F__law_value [] (consA (varF 3) (consA (varF 12) nilA)))) (op2F (eqX true) (callKF false 2 2 F_value [1, 0] (consA (callBF (listX false) (consA (varF 11) nilA)) (consA (varF 7) nilA))) (callF false F__law_value [] (consA (varF 7) (consA (varF 11) nilA))))) (retS (litF (.bl false))) skipS)))
def E7__law_good : FE := (callF false F__law_random [] (consA (varF 0) (consA (litF (.int 9)) nilA)))
def B8__law_good : FS := (exprS (appF (varF 15) (consA (op2F (addX false) (op2F (addX false) (slF false (varF 3) (litF .non) (intF (varF 5))) (tupF (consA (varF 16) nilA))) (slF false (varF 3) (intF (op2F (addX false) (varF 5) (litF (.int 1)))) (litF .non))) nilA)))
def T9__law_good : FE := (op2F (isBlX true) (callF false F_is_form [] (consA (varF 1) (consA (varF 13) nilA))) (litF (.bl false)))
def E10__law_good : FE := (varF 13)
def S__law_good : FS := (seqS (asgS (tupG 2 (consG (nameG 1) (consG (nameG 2) nilG))) (tupF (consA (callF false F__law_random [] (consA (varF 0) (consA (litF (.int 4)) nilA))) (consA (callF false F__law_random [] (consA (varF 0) (consA (litF (.int 4)) nilA))) nilA)))) (seqS (asgS (tupG 2 (consG (nameG 3) (consG (nameG 4) nilG))) (tupF (consA (callF false F__law_form [] (consA (varF 0) (consA (varF 1) nilA))) (consA (lcF false [5] (nameG 5) (rng1F (consA (varF 1) nilA)) yesF E0__law_good) nilA)))) (seqS (setS 6 (callBF (listX false) (consA (varF 4) nilA))) (seqS (setS 7 (callF false F_inserted [] (consA (varF 3) (consA (varF 2) (consA (varF 6) nilA))))) (seqS (ifS (orF (op2F (eqX true) (varF 6) (varF 4)) (orF (notF (callBF (isEX nC subB ownB exB) (consA (varF 7) (consA (litF (.ty "tuple")) nilA)))) (orF (op2F (eqX true) (callBF lenX (consA (varF 7) nilA)) (op2F (addX false) (varF 2) (litF (.int 1)))) (op2F (isBlX true) (callF false F_is_form [] (consA (varF 2) (consA (varF 7) nilA))) (litF (.bl true)))))) (retS (litF (.bl false))) skipS) (seqS (setS 8 (lstF false (consA (op2F (addX false) (op2F ixX (varF 3) (litF (.int 0))) (callBF sumX (consA (lcF false [5] (nameG 5) (rng1F (consA (varF 1) nilA)) yesF E1__law_good) nilA))) nilA))) (seqS (setS 8 (op2F (addX false) (varF 8) (lcF false [9] (nameG 9) (rng1F (consA (varF 2) nilA)) yesF E3__law_good))) (seqS (ifS (orF (op2F (eqX true) (callBF (listX false) (consA (varF 7) nilA)) (varF 8)) (op2F (eqX true) (callKF false 3 3 F_inserted [2, 1, 0] (consA (varF 4) (consA (varF 2) (consA (varF 3) nilA)))) (varF 7))) (retS (litF (.bl false))) skipS) (seqS (forS (nameG 10) (iterF (lstF false (consA (litF (.int 3)) (consA (op2F powX (litF (.int 10)) (litF (.int 25))) nilA)))) B6__law_good) (seqS (setS 14 (lcF false [5] (nameG 5) (rng1F (consA (varF 1) nilA)) yesF E7__law_good)) (seqS (ifS (orF (op2F (eqX true) (callF false F_value [] (consA (varF 3) (consA (varF 14) nilA))) (callF false F__law_value [] (consA (varF 3) (consA (varF 14) nilA)))) (op2F (isBlX true) (callKF false 2 2 F_is_form [1, 0] (consA (varF 3) (consA (varF 1) nilA))) (litF (.bl true)))) (retS (litF (.bl false))) skipS) (seqS (par2S 15 16 (consA (lstF true (consA (callBF (listX false) (consA (varF 3) nilA)) (consA (op2F (addX false) (varF 3) (tupF (consA (litF (.int 0)) nilA))) (consA (slF false (varF 3) (intF (litF (.int 1))) (litF .non)) (consA (litF .non) (consA (litF (.int 3)) (consA (litF (.str "1")) nilA))))))) (consA (op2F ixX (lstF false (consA (negF (litF (.int 1))) (consA (litF .non) (consA (litF (.bl true)) (consA (litF (.str "1")) (consA (tupF (consA (litF (.int 1)) nilA)) nilA)))))) (callF false F__law_random [] (consA (varF 0) (consA (litF (.int 5)) nilA)))) nilA))) (seqS (forS (nameG 5) (rng1F (consA (op2F (addX false) (varF 1) (litF (.int 1))) nilA)) B8__law_good) (frzS 15 (retS (op2F (eqX false) (lcF false [13] (nameG 13) (iterF (varF 15)) T9__law_good E10__law_good) (lstF false nilA)))))))))))))))))
def F__law_good : Fn := bodyF 16 S__law_good
theorem sc__law_good : FnScope N__law_good P__law_good (defScope (top 35)) := ⟨rfl, rfl, rfl, by decide +kernel, rfl, by decide +kernel, by decide +kernel⟩
theorem b__law_good (B : Tb P K mg ct) (hD__law_random : Def (tx K ct) P w K mg base 2 "_law_random" ["_law_generator_here", "_law_bound"] [] F__law_random) (hD__law_form : Def (tx K ct) P w K mg base 4 "_law_form" ["_law_generator_here", "_law_many"] [] F__law_form) (hD_inserted : Def (tx K ct) P w K mg base 7 "inserted" ["form", "many", "forms"] [] F_inserted) (hD_is_form : Def (tx K ct) P w K mg base 5 "is_form" ["many", "value"] [] F_is_form) (hDK_inserted_0 : DefK (tx K ct) P w K mg base 7 "inserted" ["form", "many", "forms"] ["forms", "many", "form"] [2, 1, 0] F_inserted) (hD__law_value : Def (tx K ct) P w K mg base 1 "_law_value" ["_law_form_here", "_law_point"] [] F__law_value) (hD_value : Def (tx K ct) P w K mg base 7 "value" ["form", "point"] [] F_value) (hDK_value_0 : DefK (tx K ct) P w K mg base 7 "value" ["form", "point"] ["point", "form"] [1, 0] F_value) (hDK_is_form_0 : DefK (tx K ct) P w K mg base 5 "is_form" ["many", "value"] ["value", "many"] [1, 0] F_is_form) (q : Qx) (W : WX) (hr : RoomG 7 q.A) (tk : Takes (mkX P w K mg base N__law_good (defScope (top 35)) q) W) (hp : PassesOwn (model P w) q.A (enX (defScope (top 35)) q) q.xe) :
    PFSs (tx K ct) (mkX P w K mg base N__law_good (defScope (top 35)) q) W (defBody (top 35)) S__law_good :=
  have C : Cn (tx K ct) (mkX P w K mg base N__law_good (defScope (top 35)) q) W 7 := ⟨rfl, hr, tk, rfl, sc__law_good.nd⟩
  (pfs_cons (pfs_asg (pf_tup (pfa_cons (pf_callD false hD__law_random C (pfa_cons (pf_var 0) (pfa_cons pf_int pfa_nil)) (len_cons (len_cons len_nil))) (pfa_cons (pf_callD false hD__law_random C (pfa_cons (pf_var 0) (pfa_cons pf_int pfa_nil)) (len_cons (len_cons len_nil))) pfa_nil))) (pfg_tup C.hK C.calm (pfgs_cons (pfg_name (i := 1) C.nd) (pfgs_cons (pfg_name (i := 2) C.nd) pfgs_nil)))) (pfs_cons (pfs_asg (pf_tup (pfa_cons (pf_callD false hD__law_form C (pfa_cons (pf_var 0) (pfa_cons (pf_var 1) pfa_nil)) (len_cons (len_cons len_nil))) (pfa_cons (pf_lc (own := [("_law_at", 5)]) false C.calm C.nd (pfi_range1 B.g_range (pfa_cons (pf_var 1) pfa_nil)) (blkOk_by (by first | decide +kernel | rfl)) (fun _ _ _ _ _ => (pfg_name (i := 5) (Cn.blk C _ _ _ _ _).nd)) (fun _ _ _ _ _ => pts_yes) (fun _ _ _ _ _ => (pf_callD false hD__law_form (Cn.blk C _ _ _ _ _) (pfa_cons (pf_var 0) (pfa_cons (pf_var 2) pfa_nil)) (len_cons (len_cons len_nil))))) pfa_nil))) (pfg_tup C.hK C.calm (pfgs_cons (pfg_name (i := 3) C.nd) (pfgs_cons (pfg_name (i := 4) C.nd) pfgs_nil)))) (pfs_cons (pfs_set (i := 6) C.nd (pf_callTy (b_list C) (list_ok (m := false)) B.g_list bt_list (pfa_cons (pf_var 4) pfa_nil))) (pfs_cons (pfs_set (i := 7) C.nd (pf_callD false hD_inserted C (pfa_cons (pf_var 3) (pfa_cons (pf_var 2) (pfa_cons (pf_var 6) pfa_nil))) (len_cons (len_cons (len_cons len_nil))))) (pfs_cons (pfs_if (pft_w (pfw_or (pft_cmp (o_ne C) ne_ok eqX_bl (pf_var 6) (pf_var 4) (nomark _)) (pfw_or (pft_not (pft_of C.hK (pf_callB (b_isi C) (isEX_ok B.txo B.tex) B.g_isinstance bt_isinstance (pfa_cons (pf_var 7) (pfa_cons (pf_ty B.g_tuple bt_tuple) pfa_nil))))) (pfw_or (pft_cmp (o_ne C) ne_ok eqX_bl (pf_callB (b_len C) len_ok B.g_len bt_len (pfa_cons (pf_var 7) pfa_nil)) (pf_add false C.hK (pf_var 2) pf_int) (nomark _)) (pfw_or1 (pft_cmp op_notBl notBl_ok isBlX_bl (pf_callD false hD_is_form C (pfa_cons (pf_var 2) (pfa_cons (pf_var 7) pfa_nil)) (len_cons (len_cons len_nil))) pf_bl (nomark _))))))) (pfs_one (pfs_ret pf_bl)) pfs_nil) (pfs_cons (pfs_set (i := 8) C.nd (pf_lst false (pfa_cons (pf_add false C.hK (pf_ix C.hK (pf_var 3) pf_int) (pf_callB (b_sum C) sum_ok B.g_sum bt_sum (pfa_cons (pf_lc (own := [("_law_at", 5)]) false C.calm C.nd (pfi_range1 B.g_range (pfa_cons (pf_var 1) pfa_nil)) (blkOk_by (by first | decide +kernel | rfl)) (fun _ _ _ _ _ => (pfg_name (i := 5) (Cn.blk C _ _ _ _ _).nd)) (fun _ _ _ _ _ => pts_yes) (fun _ _ _ _ _ => (pf_mul false (Cn.blk C _ _ _ _ _).hK (pf_ix (Cn.blk C _ _ _ _ _).hK (pf_var 3) (pf_add false (Cn.blk C _ _ _ _ _).hK (pf_var 5) pf_int)) (pf_ix (Cn.blk C _ _ _ _ _).hK (pf_ix (Cn.blk C _ _ _ _ _).hK (pf_var 4) (pf_var 5)) pf_int)))) pfa_nil))) pfa_nil))) (pfs_cons (pfs_set (i := 8) C.nd (pf_add false C.hK (pf_var 8) (pf_lc (own := [("_law_place", 9)]) false C.calm C.nd (pfi_range1 B.g_range (pfa_cons (pf_var 2) pfa_nil)) (blkOk_by (by first | decide +kernel | rfl)) (fun _ _ _ _ _ => (pfg_name (i := 9) (Cn.blk C _ _ _ _ _).nd)) (fun _ _ _ _ _ => pts_yes) (fun _ _ _ _ _ => (pf_callB (b_sum (Cn.blk C _ _ _ _ _)) sum_ok B.g_sum bt_sum (pfa_cons (pf_lc (own := [("_law_at", 5)]) false (Cn.blk C _ _ _ _ _).calm (Cn.blk C _ _ _ _ _).nd (pfi_range1 B.g_range (pfa_cons (pf_var 1) pfa_nil)) (blkOk_by (by first | decide +kernel | rfl)) (fun _ _ _ _ _ => (pfg_name (i := 5) (Cn.blk (Cn.blk C _ _ _ _ _) _ _ _ _ _).nd)) (fun _ _ _ _ _ => pts_yes) (fun _ _ _ _ _ => (pf_mul false (Cn.blk (Cn.blk C _ _ _ _ _) _ _ _ _ _).hK (pf_ix (Cn.blk (Cn.blk C _ _ _ _ _) _ _ _ _ _).hK (pf_var 3) (pf_add false (Cn.blk (Cn.blk C _ _ _ _ _) _ _ _ _ _).hK (pf_var 5) pf_int)) (pf_ix (Cn.blk (Cn.blk C _ _ _ _ _) _ _ _ _ _).hK (pf_ix (Cn.blk (Cn.blk C _ _ _ _ _) _ _ _ _ _).hK (pf_var 4) (pf_var 5)) (pf_add false (Cn.blk (Cn.blk C _ _ _ _ _) _ _ _ _ _).hK (pf_var 9) pf_int))))) pfa_nil)))))) (pfs_cons (pfs_if (pft_w (pfw_or (pft_cmp (o_ne C) ne_ok eqX_bl (pf_callTy (b_list C) (list_ok (m := false)) B.g_list bt_list (pfa_cons (pf_var 7) pfa_nil)) (pf_var 8) (nomark _)) (pfw_or1 (pft_cmp (o_ne C) ne_ok eqX_bl (pf_callDK false hDK_inserted_0 C (pfk_cons (pf_var 4) (pfk_cons (pf_var 2) (pfk_cons (pf_var 3) pfk_nil)))) (pf_var 7) (nomark _))))) (pfs_one (pfs_ret pf_bl)) pfs_nil) (pfs_cons (pfs_for hp C.calm (pfi_seq C.hK (pf_lst false (pfa_cons pf_int (pfa_cons (pf_pow pf_int pf_int) pfa_nil)))) (pfg_name (i := 10) C.nd) (pfs_cons (pfs_set (i := 11) C.nd (pf_lc (own := [("_law_at", 5)]) false C.calm C.nd (pfi_range1 B.g_range (pfa_cons (pf_var 2) pfa_nil)) (blkOk_by (by first | decide +kernel | rfl)) (fun _ _ _ _ _ => (pfg_name (i := 5) (Cn.blk C _ _ _ _ _).nd)) (fun _ _ _ _ _ => pts_yes) (fun _ _ _ _ _ => (pf_callD false hD__law_random (Cn.blk C _ _ _ _ _) (pfa_cons (pf_var 0) (pfa_cons (pf_var 10) pfa_nil)) (len_cons (len_cons len_nil)))))) (pfs_cons (pfs_setLc (i := 12) (own := [("_law_one", 13)]) false C.calm C.nd (pfi_seq C.hK (pf_var 4)) (blkOk_by (by first | decide +kernel | rfl)) (fun _ _ _ _ _ => (pfg_name (i := 13) (Cn.blk C _ _ _ _ _).nd)) (fun _ _ _ _ _ => pts_yes) (fun _ _ _ _ _ => (pf_callD false hD__law_value (Cn.blk C _ _ _ _ _) (pfa_cons (pf_var 13) (pfa_cons (pf_var 11) pfa_nil)) (len_cons (len_cons len_nil)))) (sw_true rfl rfl rfl (by first | rfl | decide +kernel))) (pfs_one (pfs_if (pft_w (pfw_or (pft_cmp (o_ne C) ne_ok eqX_bl (pf_callD false hD_value C (pfa_cons (pf_var 7) (pfa_cons (pf_var 11) pfa_nil)) (len_cons (len_cons len_nil))) (pf_callD false hD__law_value C (pfa_cons (pf_var 3) (pfa_cons (pf_var 12) pfa_nil)) (len_cons (len_cons len_nil))) (nomark _)) (pfw_or1 (pft_cmp (o_ne C) ne_ok eqX_bl (pf_callDK false hDK_value_0 C (pfk_cons (pf_callTy (b_list C) (list_ok (m := false)) B.g_list bt_list (pfa_cons (pf_var 11) pfa_nil)) (pfk_cons (pf_var 7) pfk_nil))) (pf_callD false hD__law_value C (pfa_cons (pf_var 7) (pfa_cons (pf_var 11) pfa_nil)) (len_cons (len_cons len_nil))) (nomark _))))) (pfs_one (pfs_ret pf_bl)) pfs_nil))))) (pfs_cons (pfs_setLc (i := 14) (own := [("_law_at", 5)]) false C.calm C.nd (pfi_range1 B.g_range (pfa_cons (pf_var 1) pfa_nil)) (blkOk_by (by first | decide +kernel | rfl)) (fun _ _ _ _ _ => (pfg_name (i := 5) (Cn.blk C _ _ _ _ _).nd)) (fun _ _ _ _ _ => pts_yes) (fun _ _ _ _ _ => (pf_callD false hD__law_random (Cn.blk C _ _ _ _ _) (pfa_cons (pf_var 0) (pfa_cons pf_int pfa_nil)) (len_cons (len_cons len_nil)))) (sw_true rfl rfl rfl (by first | rfl | decide +kernel))) (pfs_cons (pfs_if (pft_w (pfw_or (pft_cmp (o_ne C) ne_ok eqX_bl (pf_callD false hD_value C (pfa_cons (pf_var 3) (pfa_cons (pf_var 14) pfa_nil)) (len_cons (len_cons len_nil))) (pf_callD false hD__law_value C (pfa_cons (pf_var 3) (pfa_cons (pf_var 14) pfa_nil)) (len_cons (len_cons len_nil))) (nomark _)) (pfw_or1 (pft_cmp op_notBl notBl_ok isBlX_bl (pf_callDK false hDK_is_form_0 C (pfk_cons (pf_var 3) (pfk_cons (pf_var 1) pfk_nil))) pf_bl (nomark _))))) (pfs_one (pfs_ret pf_bl)) pfs_nil) (pfs_cons (pfs_par2 (i := 15) (j := 16) C.calm C.nd (pfa_cons (pf_lst true (pfa_cons (pf_callTy (b_list C) (list_ok (m := false)) B.g_list bt_list (pfa_cons (pf_var 3) pfa_nil)) (pfa_cons (pf_add false C.hK (pf_var 3) (pf_tup (pfa_cons pf_int pfa_nil))) (pfa_cons (pf_slice false C.hK (pf_var 3) (pfo_some pf_int) pfo_none) (pfa_cons pf_non (pfa_cons pf_int (pfa_cons pf_str pfa_nil))))))) (pfa_cons (pf_ix C.hK (pf_lst false (pfa_cons (pf_neg pf_int) (pfa_cons pf_non (pfa_cons pf_bl (pfa_cons pf_str (pfa_cons (pf_tup (pfa_cons pf_int pfa_nil)) pfa_nil)))))) (pf_callD false hD__law_random C (pfa_cons (pf_var 0) (pfa_cons pf_int pfa_nil)) (len_cons (len_cons len_nil)))) pfa_nil))) (pfs_cons (pfs_for hp C.calm (pfi_range1 B.g_range (pfa_cons (pf_add false C.hK (pf_var 1) pf_int) pfa_nil)) (pfg_name (i := 5) C.nd) (pfs_one (pfs_expr (pf_append C.hK (pf_var 15) (pfa_cons (pf_add false C.hK (pf_add false C.hK (pf_slice false C.hK (pf_var 3) pfo_none (pfo_some (pf_var 5))) (pf_tup (pfa_cons (pf_var 16) pfa_nil))) (pf_slice false C.hK (pf_var 3) (pfo_some (pf_add false C.hK (pf_var 5) pf_int)) pfo_none)) pfa_nil))))) (pfs_frz 15 (pfs_one (pfs_ret (pf_cmp (o_eq C) eq_ok (pf_lc (own := [("_law_one", 13)]) false C.calm C.nd (pfi_seq C.hK (pf_var 15)) (blkOk_by (by first | decide +kernel | rfl)) (fun _ _ _ _ _ => (pfg_name (i := 13) (Cn.blk C _ _ _ _ _).nd)) (fun _ _ _ _ _ => (pts_1 (pft_cmp op_notBl notBl_ok isBlX_bl (pf_callD false hD_is_form (Cn.blk C _ _ _ _ _) (pfa_cons (pf_var 1) (pfa_cons (pf_var 13) pfa_nil)) (len_cons (len_cons len_nil))) pf_bl (nomark _)))) (fun _ _ _ _ _ => (pf_var 13))) (pf_lst false pfa_nil) (nomark _))))))))))))))))))
/-! _law_caught -/
def N__law_caught : List Str := ["_law_which", "_law_given", "_law_error", "e", "_law_kinds"]
def P__law_caught : List Str := ["_law_which", "_law_given"]
def B0__law_caught : FS := (ifS (op2F (eqX false) (varF 0) (litF (.int 0))) (exprS (callF false F_is_form [] (consA (op2F ixX (varF 1) (litF (.int 0))) (consA (op2F ixX (varF 1) (litF (.int 1))) nilA)))) (ifS (op2F (eqX false) (varF 0) (litF (.int 1))) (exprS (callF false F_value [] (consA (op2F ixX (varF 1) (litF (.int 0))) (consA (op2F ixX (varF 1) (litF (.int 1))) nilA)))) (exprS (callF false F_inserted [] (consA (op2F ixX (varF 1) (litF (.int 0))) (consA (op2F ixX (varF 1) (litF (.int 1))) (consA (op2F ixX (varF 1) (litF (.int 2))) nilA)))))))
def S__law_caught : FS := (seqS (setS 2 (litF .non)) (seqS (tryKeepS subB exB 0 3 2 B0__law_caught) (seqS (setS 4 (lstF false (consA (callBF (isEX nC subB ownB exB) (consA (varF 2) (consA (litF (.cls 1)) nilA))) (consA (callBF (isEX nC subB ownB exB) (consA (varF 2) (consA (litF (.cls 2)) nilA))) (consA (callBF (isEX nC subB ownB exB) (consA (varF 2) (consA (litF (.cls 3)) nilA))) nilA))))) (retS (lstF false (consA (op2F (addX false) (varF 4) (lstF false (consA (callBF (isEX nC subB ownB exB) (consA (varF 2) (consA (litF (.cls 4)) nilA))) nilA))) (consA (ifF (op2F (isNoneX false) (varF 2) (litF .non)) (litF .non) (callBF reprX (consA (excF exB "value" (varF 2)) nilA))) nilA)))))))
def F__law_caught : Fn := bodyF 3 S__law_caught
theorem sc__law_caught : FnScope N__law_caught P__law_caught (defScope (top 36)) := ⟨rfl, rfl, rfl, by decide +kernel, rfl, by decide +kernel, by decide +kernel⟩
theorem b__law_caught (B : Tb P K mg ct) (hD_is_form : Def (tx K ct) P w K mg base 5 "is_form" ["many", "value"] [] F_is_form) (hD_value : Def (tx K ct) P w K mg base 7 "value" ["form", "point"] [] F_value) (hD_inserted : Def (tx K ct) P w K mg base 7 "inserted" ["form", "many", "forms"] [] F_inserted) (q : Qx) (W : WX) (hr : RoomG 7 q.A) (tk : Takes (mkX P w K mg base N__law_caught (defScope (top 36)) q) W) (hp : PassesOwn (model P w) q.A (enX (defScope (top 36)) q) q.xe) :
    PFSs (tx K ct) (mkX P w K mg base N__law_caught (defScope (top 36)) q) W (defBody (top 36)) S__law_caught :=
  have C : Cn (tx K ct) (mkX P w K mg base N__law_caught (defScope (top 36)) q) W 7 := ⟨rfl, hr, tk, rfl, sc__law_caught.nd⟩
  (pfs_cons (pfs_set (i := 2) C.nd pf_non) (pfs_cons (pfs_tryKeep (k := 0) (i := 3) (j := 2) B.tex C.hK rfl rfl rfl (fun _ => rfl) C.tk rfl B.m_LoopError C.nd (fun W2 pn2 xe2 tk2 hp2 => (pfs_one (pfs_if (pft_cmp (o_eq (Cn.tr C tk2)) eq_ok eqX_bl (pf_var 0) pf_int (nomark _)) (pfs_one (pfs_expr (pf_callD false hD_is_form (Cn.tr C tk2) (pfa_cons (pf_ix (Cn.tr C tk2).hK (pf_var 1) pf_int) (pfa_cons (pf_ix (Cn.tr C tk2).hK (pf_var 1) pf_int) pfa_nil)) (len_cons (len_cons len_nil))))) (pfs_one (pfs_if (pft_cmp (o_eq (Cn.tr C tk2)) eq_ok eqX_bl (pf_var 0) pf_int (nomark _)) (pfs_one (pfs_expr (pf_callD false hD_value (Cn.tr C tk2) (pfa_cons (pf_ix (Cn.tr C tk2).hK (pf_var 1) pf_int) (pfa_cons (pf_ix (Cn.tr C tk2).hK (pf_var 1) pf_int) pfa_nil)) (len_cons (len_cons len_nil))))) (pfs_one (pfs_expr (pf_callD false hD_inserted (Cn.tr C tk2) (pfa_cons (pf_ix (Cn.tr C tk2).hK (pf_var 1) pf_int) (pfa_cons (pf_ix (Cn.tr C tk2).hK (pf_var 1) pf_int) (pfa_cons (pf_ix (Cn.tr C tk2).hK (pf_var 1) pf_int) pfa_nil))) (len_cons (len_cons (len_cons len_nil)))))))))))) (pfs_cons (pfs_set (i := 4) C.nd (pf_lst false (pfa_cons (pf_callB (b_isi C) (isEX_ok B.txo B.tex) B.g_isinstance bt_isinstance (pfa_cons (pf_var 2) (pfa_cons (pf_gcls 1 B.m_InvalidNumber) pfa_nil))) (pfa_cons (pf_callB (b_isi C) (isEX_ok B.txo B.tex) B.g_isinstance bt_isinstance (pfa_cons (pf_var 2) (pfa_cons (pf_gcls 2 B.m_InvalidForm) pfa_nil))) (pfa_cons (pf_callB (b_isi C) (isEX_ok B.txo B.tex) B.g_isinstance bt_isinstance (pfa_cons (pf_var 2) (pfa_cons (pf_gcls 3 B.m_InvalidPoint) pfa_nil))) pfa_nil))))) (pfs_one (pfs_ret (pf_lst false (pfa_cons (pf_add false C.hK (pf_var 4) (pf_lst false (pfa_cons (pf_callB (b_isi C) (isEX_ok B.txo B.tex) B.g_isinstance bt_isinstance (pfa_cons (pf_var 2) (pfa_cons (pf_gcls 4 B.m_InvalidList) pfa_nil))) pfa_nil))) (pfa_cons (pf_if (pft_cmp op_isN isNone_ok isNoneX_bl (pf_var 2) pf_non (nomark _)) pf_non (pf_callB (b_repr C) repr_ok B.g_repr bt_repr (pfa_cons (pf_excF B.tex C.hK (pf_var 2)) pfa_nil))) pfa_nil))))))))
/-! _law_only -/
def N__law_only : List Str := ["_law_place", "_law_bad", "_law_at"]
def P__law_only : List Str := ["_law_place", "_law_bad"]
def E0__law_only : FE := (op2F (eqX false) (varF 2) (varF 0))
def S__law_only : FS := (retS (lstF false (consA (lcF false [2] (nameG 2) (rng1F (consA (litF (.int 4)) nilA)) yesF E0__law_only) (consA (callBF reprX (consA (varF 1) nilA)) nilA))))
def F__law_only : Fn := bodyF 1 S__law_only
theorem sc__law_only : FnScope N__law_only P__law_only (defScope (top 37)) := ⟨rfl, rfl, rfl, by decide +kernel, rfl, by decide +kernel, by decide +kernel⟩
theorem b__law_only (B : Tb P K mg ct) (q : Qx) (W : WX) (hr : RoomG 0 q.A) (tk : Takes (mkX P w K mg base N__law_only (defScope (top 37)) q) W) (hp : PassesOwn (model P w) q.A (enX (defScope (top 37)) q) q.xe) :
    PFSs (tx K ct) (mkX P w K mg base N__law_only (defScope (top 37)) q) W (defBody (top 37)) S__law_only :=
  have C : Cn (tx K ct) (mkX P w K mg base N__law_only (defScope (top 37)) q) W 0 := ⟨rfl, hr, tk, rfl, sc__law_only.nd⟩
  (pfs_one (pfs_ret (pf_lst false (pfa_cons (pf_lc (own := [("_law_at", 2)]) false C.calm C.nd (pfi_range1 B.g_range (pfa_cons pf_int pfa_nil)) (blkOk_by (by first | decide +kernel | rfl)) (fun _ _ _ _ _ => (pfg_name (i := 2) (Cn.blk C _ _ _ _ _).nd)) (fun _ _ _ _ _ => pts_yes) (fun _ _ _ _ _ => (pf_cmp (o_eq (Cn.blk C _ _ _ _ _)) eq_ok (pf_var 2) (pf_var 0) (nomark _)))) (pfa_cons (pf_callB (b_repr C) repr_ok B.g_repr bt_repr (pfa_cons (pf_var 1) pfa_nil)) pfa_nil)))))
/-! _law_refused -/
def N__law_refused : List Str := ["_law_bad", "_law_which", "_law_bads"]
def P__law_refused : List Str := []
def B0__law_refused : FS := (ifS (orF (op2F (eqX true) (callF false F__law_caught [] (consA (litF (.int 0)) (consA (lstF false (consA (varF 0) (consA (litF .non) nilA))) nilA))) (callF false F__law_only [] (consA (litF (.int 0)) (consA (varF 0) nilA)))) (op2F (eqX true) (callF false F__law_caught [] (consA (litF (.int 2)) (consA (lstF false (consA (tupF (consA (litF (.int 1)) (consA (litF (.int 2)) nilA))) (consA (varF 0) (consA (litF .non) nilA)))) nilA))) (callF false F__law_only [] (consA (litF (.int 0)) (consA (varF 0) nilA))))) (retS (litF (.bl false))) skipS)
def B1__law_refused : FS := (ifS (op2F (eqX true) (callF false F__law_caught [] (consA (varF 1) (consA (lstF false (consA (varF 0) (consA (litF .non) (consA (litF .non) nilA)))) nilA))) (callF false F__law_only [] (consA (litF (.int 1)) (consA (varF 0) nilA)))) (retS (litF (.bl false))) skipS)
def B2__law_refused : FS := (forS (nameG 1) (iterF (lstF false (consA (litF (.int 1)) (consA (litF (.int 2)) nilA)))) B1__law_refused)
def B3__law_refused : FS := (ifS (op2F (eqX true) (callF false F__law_caught [] (consA (litF (.int 1)) (consA (lstF false (consA (tupF (consA (litF (.int 0)) (consA (litF (.int 1)) (consA (litF (.int 2)) nilA)))) (consA (varF 0) nilA))) nilA))) (callF false F__law_only [] (consA (litF (.int 2)) (consA (varF 0) nilA)))) (retS (litF (.bl false))) skipS)
def B4__law_refused : FS := (ifS (op2F (eqX true) (callF false F__law_caught [] (consA (litF (.int 2)) (consA (lstF false (consA (tupF (consA (litF (.int 0)) (consA (litF (.int 1)) (consA (litF (.int 2)) nilA)))) (consA (litF (.int 1)) (consA (varF 0) nilA)))) nilA))) (callF false F__law_only [] (consA (litF (.int 3)) (consA (varF 0) nilA)))) (retS (litF (.bl false))) skipS)
def S__law_refused : FS := (seqS (forS (nameG 0) (iterF (lstF false (consA (litF .non) (consA (negF (litF (.int 1))) (consA (litF (.int 4)) (consA (litF (.bl true)) (consA (litF (.bl false)) (consA (litF (.str "1")) (consA (lstF false (consA (litF (.int 1)) nilA)) nilA))))))))) B0__law_refused) (seqS (forS (nameG 0) (iterF (lstF false (consA (litF .non) (consA (tupF nilA) (consA (lstF false (consA (litF (.int 1)) (consA (litF (.int 2)) nilA))) (consA (tupF (consA (litF (.int 1)) (consA (negF (litF (.int 1))) nilA))) (consA (tupF (consA (negF (litF (.int 1))) (consA (litF (.int 1)) nilA))) (consA (tupF (consA (litF (.int 1)) (consA (litF .non) (consA (litF (.int 1)) nilA)))) (consA (tupF (consA (litF (.bl true)) (consA (litF (.int 0)) nilA))) (consA (tupF (consA (litF (.int 1)) (consA (litF (.int 2)) (consA (litF (.int 3)) (consA (litF (.int 4)) (consA (litF (.int 5)) nilA)))))) (consA (litF (.int 3)) (consA (litF (.str "12")) (consA (tupF (consA (tupF (consA (litF (.int 1)) nilA)) nilA)) nilA))))))))))))) B2__law_refused) (seqS (forS (nameG 0) (iterF (lstF false (consA (litF .non) (consA (lstF false nilA) (consA (lstF false (consA (litF (.int 1)) nilA)) (consA (lstF false (consA (litF (.int 1)) (consA (litF (.int 2)) (consA (litF (.int 3)) nilA)))) (consA (tupF (consA (litF (.int 1)) (consA (litF (.int 2)) nilA))) (consA (lstF false (consA (litF (.int 1)) (consA (negF (litF (.int 2))) nilA))) (consA (lstF false (consA (litF (.int 1)) (consA (litF (.bl true)) nilA))) (consA (lstF false (consA (negF (litF (.int 2))) (consA (litF (.int 1)) nilA))) (consA (lstF false (consA (litF (.bl true)) (consA (litF (.int 1)) nilA))) (consA (lstF false (consA (litF .non) (consA (litF (.int 1)) nilA))) (consA (litF (.str "12")) nilA))))))))))))) B3__law_refused) (seqS (setS 2 (lstF false (consA (litF .non) (consA (lstF false nilA) (consA (lstF false (consA (tupF (consA (litF (.int 1)) (consA (litF (.int 2)) nilA))) nilA)) (consA (lstF false (consA (tupF (consA (litF (.int 1)) (consA (litF (.int 2)) nilA))) (consA (tupF (consA (litF (.int 1)) nilA)) nilA))) (consA (tupF (consA (tupF (consA (litF (.int 1)) (consA (litF (.int 2)) nilA))) (consA (tupF (consA (litF (.int 1)) (consA (litF (.int 2)) nilA))) nilA))) (consA (lstF false (consA (tupF (consA (litF (.int 1)) (consA (litF (.int 2)) nilA))) (consA (lstF false (consA (litF (.int 1)) (consA (litF (.int 2)) nilA))) nilA))) (consA (lstF false (consA (tupF (consA (litF (.int 1)) (consA (litF (.int 2)) nilA))) (consA (tupF (consA (litF (.int 1)) (consA (litF (.int 2)) nilA))) (consA (tupF (consA (litF (.int 1)) (consA (litF (.int 2)) nilA))) nilA)))) nilA))))))))) (seqS (forS (nameG 0) (iterF (op2F (addX false) (varF 2) (lstF false (consA (lstF false (consA (tupF (consA (litF (.int 1)) (consA (litF (.int 2)) nilA))) (consA (tupF (consA (litF (.int 1)) (consA (negF (litF (.int 2))) nilA))) nilA))) (consA (lstF false (consA (tupF (consA (litF (.int 1)) (consA (negF (litF (.int 2))) nilA))) (consA (tupF (consA (litF (.int 1)) (consA (litF (.int 2)) nilA))) nilA))) (consA (lstF false (consA (tupF (consA (litF (.int 1)) (consA (litF (.int 2)) (consA (litF (.int 0)) nilA)))) (consA (tupF (consA (litF (.int 1)) (consA (litF (.int 2)) nilA))) nilA))) (consA (lstF false (consA (litF .non) (consA (tupF (consA (litF (.int 1)) (consA (litF (.int 2)) nilA))) nilA))) (consA (lstF false (consA (tupF (consA (litF (.bl true)) (consA (litF (.int 2)) nilA))) (consA (tupF (consA (litF (.int 1)) (consA (litF (.int 2)) nilA))) nilA))) nilA)))))))) B4__law_refused) (retS (litF (.bl true))))))))
def F__law_refused : Fn := bodyF 3 S__law_refused
theorem sc__law_refused : FnScope N__law_refused P__law_refused (defScope (top 38)) := ⟨rfl, rfl, rfl, by decide +kernel, rfl, by decide +kernel, by decide +kernel⟩
theorem b__law_refused (B : Tb P K mg ct) (hD__law_caught : Def (tx K ct) P w K mg base 8 "_law_caught" ["_law_which", "_law_given"] [] F__law_caught) (hD__law_only : Def (tx K ct) P w K mg base 1 "_law_only" ["_law_place", "_law_bad"] [] F__law_only) (q : Qx) (W : WX) (hr : RoomG 8 q.A) (tk : Takes (mkX P w K mg base N__law_refused (defScope (top 38)) q) W) (hp : PassesOwn (model P w) q.A (enX (defScope (top 38)) q) q.xe) :
    PFSs (tx K ct) (mkX P w K mg base N__law_refused (defScope (top 38)) q) W (defBody (top 38)) S__law_refused :=
  have C : Cn (tx K ct) (mkX P w K mg base N__law_refused (defScope (top 38)) q) W 8 := ⟨rfl, hr, tk, rfl, sc__law_refused.nd⟩
  (pfs_cons (pfs_for hp C.calm (pfi_seq C.hK (pf_lst false (pfa_cons pf_non (pfa_cons (pf_neg pf_int) (pfa_cons pf_int (pfa_cons pf_bl (pfa_cons pf_bl (pfa_cons pf_str (pfa_cons (pf_lst false (pfa_cons pf_int pfa_nil)) pfa_nil))))))))) (pfg_name (i := 0) C.nd) (pfs_one (pfs_if (pft_w (pfw_or (pft_cmp (o_ne C) ne_ok eqX_bl (pf_callD false hD__law_caught C (pfa_cons pf_int (pfa_cons (pf_lst false (pfa_cons (pf_var 0) (pfa_cons pf_non pfa_nil))) pfa_nil)) (len_cons (len_cons len_nil))) (pf_callD false hD__law_only C (pfa_cons pf_int (pfa_cons (pf_var 0) pfa_nil)) (len_cons (len_cons len_nil))) (nomark _)) (pfw_or1 (pft_cmp (o_ne C) ne_ok eqX_bl (pf_callD false hD__law_caught C (pfa_cons pf_int (pfa_cons (pf_lst false (pfa_cons (pf_tup (pfa_cons pf_int (pfa_cons pf_int pfa_nil))) (pfa_cons (pf_var 0) (pfa_cons pf_non pfa_nil)))) pfa_nil)) (len_cons (len_cons len_nil))) (pf_callD false hD__law_only C (pfa_cons pf_int (pfa_cons (pf_var 0) pfa_nil)) (len_cons (len_cons len_nil))) (nomark _))))) (pfs_one (pfs_ret pf_bl)) pfs_nil))) (pfs_cons (pfs_for hp C.calm (pfi_seq C.hK (pf_lst false (pfa_cons pf_non (pfa_cons (pf_tup pfa_nil) (pfa_cons (pf_lst false (pfa_cons pf_int (pfa_cons pf_int pfa_nil))) (pfa_cons (pf_tup (pfa_cons pf_int (pfa_cons (pf_neg pf_int) pfa_nil))) (pfa_cons (pf_tup (pfa_cons (pf_neg pf_int) (pfa_cons pf_int pfa_nil))) (pfa_cons (pf_tup (pfa_cons pf_int (pfa_cons pf_non (pfa_cons pf_int pfa_nil)))) (pfa_cons (pf_tup (pfa_cons pf_bl (pfa_cons pf_int pfa_nil))) (pfa_cons (pf_tup (pfa_cons pf_int (pfa_cons pf_int (pfa_cons pf_int (pfa_cons pf_int (pfa_cons pf_int pfa_nil)))))) (pfa_cons pf_int (pfa_cons pf_str (pfa_cons (pf_tup (pfa_cons (pf_tup (pfa_cons pf_int pfa_nil)) pfa_nil)) pfa_nil))))))))))))) (pfg_name (i := 0) C.nd) (pfs_one (pfs_for hp C.calm (pfi_seq C.hK (pf_lst false (pfa_cons pf_int (pfa_cons pf_int pfa_nil)))) (pfg_name (i := 1) C.nd) (pfs_one (pfs_if (pft_cmp (o_ne C) ne_ok eqX_bl (pf_callD false hD__law_caught C (pfa_cons (pf_var 1) (pfa_cons (pf_lst false (pfa_cons (pf_var 0) (pfa_cons pf_non (pfa_cons pf_non pfa_nil)))) pfa_nil)) (len_cons (len_cons len_nil))) (pf_callD false hD__law_only C (pfa_cons pf_int (pfa_cons (pf_var 0) pfa_nil)) (len_cons (len_cons len_nil))) (nomark _)) (pfs_one (pfs_ret pf_bl)) pfs_nil))))) (pfs_cons (pfs_for hp C.calm (pfi_seq C.hK (pf_lst false (pfa_cons pf_non (pfa_cons (pf_lst false pfa_nil) (pfa_cons (pf_lst false (pfa_cons pf_int pfa_nil)) (pfa_cons (pf_lst false (pfa_cons pf_int (pfa_cons pf_int (pfa_cons pf_int pfa_nil)))) (pfa_cons (pf_tup (pfa_cons pf_int (pfa_cons pf_int pfa_nil))) (pfa_cons (pf_lst false (pfa_cons pf_int (pfa_cons (pf_neg pf_int) pfa_nil))) (pfa_cons (pf_lst false (pfa_cons pf_int (pfa_cons pf_bl pfa_nil))) (pfa_cons (pf_lst false (pfa_cons (pf_neg pf_int) (pfa_cons pf_int pfa_nil))) (pfa_cons (pf_lst false (pfa_cons pf_bl (pfa_cons pf_int pfa_nil))) (pfa_cons (pf_lst false (pfa_cons pf_non (pfa_cons pf_int pfa_nil))) (pfa_cons pf_str pfa_nil))))))))))))) (pfg_name (i := 0) C.nd) (pfs_one (pfs_if (pft_cmp (o_ne C) ne_ok eqX_bl (pf_callD false hD__law_caught C (pfa_cons pf_int (pfa_cons (pf_lst false (pfa_cons (pf_tup (pfa_cons pf_int (pfa_cons pf_int (pfa_cons pf_int pfa_nil)))) (pfa_cons (pf_var 0) pfa_nil))) pfa_nil)) (len_cons (len_cons len_nil))) (pf_callD false hD__law_only C (pfa_cons pf_int (pfa_cons (pf_var 0) pfa_nil)) (len_cons (len_cons len_nil))) (nomark _)) (pfs_one (pfs_ret pf_bl)) pfs_nil))) (pfs_cons (pfs_set (i := 2) C.nd (pf_lst false (pfa_cons pf_non (pfa_cons (pf_lst false pfa_nil) (pfa_cons (pf_lst false (pfa_cons (pf_tup (pfa_cons pf_int (pfa_cons pf_int pfa_nil))) pfa_nil)) (pfa_cons (pf_lst false (pfa_cons (pf_tup (pfa_cons pf_int (pfa_cons pf_int pfa_nil))) (pfa_cons (pf_tup (pfa_cons pf_int pfa_nil)) pfa_nil))) (pfa_cons (pf_tup (pfa_cons (pf_tup (pfa_cons pf_int (pfa_cons pf_int pfa_nil))) (pfa_cons (pf_tup (pfa_cons pf_int (pfa_cons pf_int pfa_nil))) pfa_nil))) (pfa_cons (pf_lst false (pfa_cons (pf_tup (pfa_cons pf_int (pfa_cons pf_int pfa_nil))) (pfa_cons (pf_lst false (pfa_cons pf_int (pfa_cons pf_int pfa_nil))) pfa_nil))) (pfa_cons (pf_lst false (pfa_cons (pf_tup (pfa_cons pf_int (pfa_cons pf_int pfa_nil))) (pfa_cons (pf_tup (pfa_cons pf_int (pfa_cons pf_int pfa_nil))) (pfa_cons (pf_tup (pfa_cons pf_int (pfa_cons pf_int pfa_nil))) pfa_nil)))) pfa_nil))))))))) (pfs_cons (pfs_for hp C.calm (pfi_seq C.hK (pf_add false C.hK (pf_var 2) (pf_lst false (pfa_cons (pf_lst false (pfa_cons (pf_tup (pfa_cons pf_int (pfa_cons pf_int pfa_nil))) (pfa_cons (pf_tup (pfa_cons pf_int (pfa_cons (pf_neg pf_int) pfa_nil))) pfa_nil))) (pfa_cons (pf_lst false (pfa_cons (pf_tup (pfa_cons pf_int (pfa_cons (pf_neg pf_int) pfa_nil))) (pfa_cons (pf_tup (pfa_cons pf_int (pfa_cons pf_int pfa_nil))) pfa_nil))) (pfa_cons (pf_lst false (pfa_cons (pf_tup (pfa_cons pf_int (pfa_cons pf_int (pfa_cons pf_int pfa_nil)))) (pfa_cons (pf_tup (pfa_cons pf_int (pfa_cons pf_int pfa_nil))) pfa_nil))) (pfa_cons (pf_lst false (pfa_cons pf_non (pfa_cons (pf_tup (pfa_cons pf_int (pfa_cons pf_int pfa_nil))) pfa_nil))) (pfa_cons (pf_lst false (pfa_cons (pf_tup (pfa_cons pf_bl (pfa_cons pf_int pfa_nil))) (pfa_cons (pf_tup (pfa_cons pf_int (pfa_cons pf_int pfa_nil))) pfa_nil))) pfa_nil)))))))) (pfg_name (i := 0) C.nd) (pfs_one (pfs_if (pft_cmp (o_ne C) ne_ok eqX_bl (pf_callD false hD__law_caught C (pfa_cons pf_int (pfa_cons (pf_lst false (pfa_cons (pf_tup (pfa_cons pf_int (pfa_cons pf_int (pfa_cons pf_int pfa_nil)))) (pfa_cons pf_int (pfa_cons (pf_var 0) pfa_nil)))) pfa_nil)) (len_cons (len_cons len_nil))) (pf_callD false hD__law_only C (pfa_cons pf_int (pfa_cons (pf_var 0) pfa_nil)) (len_cons (len_cons len_nil))) (nomark _)) (pfs_one (pfs_ret pf_bl)) pfs_nil))) (pfs_one (pfs_ret pf_bl)))))))
/-! law -/
def N_law : List Str := ["_law_script", "_law_index", "_law_told"]
def P_law : List Str := ["_law_script"]
def B0_law : FS := (ifS (notF (callF false F__law_good [] (consA (callF true F__law_generator [] (consA (varF 0) (consA (varF 1) nilA))) nilA))) (retS (litF (.bl false))) skipS)
def S_law : FS := (seqS (forS (nameG 1) (rng1F (consA (litF (.int 3)) nilA)) B0_law) (seqS (setS 2 (lstF false (consA (callF false F_value [] (consA (tupF (consA (litF (.int 3)) (consA (litF (.int 1)) (consA (litF (.int 2)) nilA)))) (consA (lstF false (consA (litF (.int 10)) (consA (litF (.int 100)) nilA))) nilA))) (consA (callF false F_inserted [] (consA (tupF (consA (litF (.int 1)) (consA (litF (.int 2)) (consA (litF (.int 3)) nilA)))) (consA (litF (.int 1)) (consA (lstF false (consA (tupF (consA (litF (.int 5)) (consA (litF (.int 1)) nilA))) (consA (tupF (consA (litF (.int 0)) (consA (litF (.int 4)) nilA))) nilA))) nilA)))) (consA (callF false F_inserted [] (consA (tupF (consA (litF (.int 7)) nilA)) (consA (litF (.int 0)) (consA (lstF false nilA) nilA)))) (consA (callF false F_inserted [] (consA (tupF (consA (litF (.int 7)) nilA)) (consA (litF (.int 2)) (consA (lstF false nilA) nilA)))) nilA)))))) (retS (andF (op2F (eqX false) (op2F (addX false) (varF 2) (lstF false (consA (callF false F_value [] (consA (tupF (consA (litF (.int 4)) nilA)) (consA (lstF false nilA) nilA))) nilA))) (lstF false (consA (litF (.int 213)) (consA (tupF (consA (litF (.int 11)) (consA (litF (.int 14)) nilA))) (consA (tupF (consA (litF (.int 7)) nilA)) (consA (tupF (consA (litF (.int 7)) (consA (litF (.int 0)) (consA (litF (.int 0)) nilA)))) (consA (litF (.int 4)) nilA))))))) (callF false F__law_refused [] nilA)))))
def F_law : Fn := bodyF 2 S_law
theorem sc_law : FnScope N_law P_law (defScope (top 39)) := ⟨rfl, rfl, rfl, by decide +kernel, rfl, by decide +kernel, by decide +kernel⟩
theorem b_law (B : Tb P K mg ct) (hD__law_good : Def (tx K ct) P w K mg base 8 "_law_good" ["_law_generator_here"] [] F__law_good) (hD__law_generator : Def (tx K ct) P w K mg base 1 "_law_generator" ["_law_script", "_law_index"] [] F__law_generator) (hD_inserted : Def (tx K ct) P w K mg base 7 "inserted" ["form", "many", "forms"] [] F_inserted) (hD_value : Def (tx K ct) P w K mg base 7 "value" ["form", "point"] [] F_value) (hD__law_refused : Def (tx K ct) P w K mg base 9 "_law_refused" [] [] F__law_refused) (q : Qx) (W : WX) (hr : RoomG 9 q.A) (tk : Takes (mkX P w K mg base N_law (defScope (top 39)) q) W) (hp : PassesOwn (model P w) q.A (enX (defScope (top 39)) q) q.xe) :
    PFSs (tx K ct) (mkX P w K mg base N_law (defScope (top 39)) q) W (defBody (top 39)) S_law :=
  have C : Cn (tx K ct) (mkX P w K mg base N_law (defScope (top 39)) q) W 9 := ⟨rfl, hr, tk, rfl, sc_law.nd⟩
  (pfs_cons (pfs_for hp C.calm (pfi_range1 B.g_range (pfa_cons pf_int pfa_nil)) (pfg_name (i := 1) C.nd) (pfs_one (pfs_if (pft_not (pft_of C.hK (pf_callD false hD__law_good C (pfa_cons (pf_callD true hD__law_generator C (pfa_cons (pf_var 0) (pfa_cons (pf_var 1) pfa_nil)) (len_cons (len_cons len_nil))) pfa_nil) (len_cons len_nil)))) (pfs_one (pfs_ret pf_bl)) pfs_nil))) (pfs_cons (pfs_set (i := 2) C.nd (pf_lst false (pfa_cons (pf_callD false hD_value C (pfa_cons (pf_tup (pfa_cons pf_int (pfa_cons pf_int (pfa_cons pf_int pfa_nil)))) (pfa_cons (pf_lst false (pfa_cons pf_int (pfa_cons pf_int pfa_nil))) pfa_nil)) (len_cons (len_cons len_nil))) (pfa_cons (pf_callD false hD_inserted C (pfa_cons (pf_tup (pfa_cons pf_int (pfa_cons pf_int (pfa_cons pf_int pfa_nil)))) (pfa_cons pf_int (pfa_cons (pf_lst false (pfa_cons (pf_tup (pfa_cons pf_int (pfa_cons pf_int pfa_nil))) (pfa_cons (pf_tup (pfa_cons pf_int (pfa_cons pf_int pfa_nil))) pfa_nil))) pfa_nil))) (len_cons (len_cons (len_cons len_nil)))) (pfa_cons (pf_callD false hD_inserted C (pfa_cons (pf_tup (pfa_cons pf_int pfa_nil)) (pfa_cons pf_int (pfa_cons (pf_lst false pfa_nil) pfa_nil))) (len_cons (len_cons (len_cons len_nil)))) (pfa_cons (pf_callD false hD_inserted C (pfa_cons (pf_tup (pfa_cons pf_int pfa_nil)) (pfa_cons pf_int (pfa_cons (pf_lst false pfa_nil) pfa_nil))) (len_cons (len_cons (len_cons len_nil)))) pfa_nil)))))) (pfs_one (pfs_ret (pf_and (pf_cmp (o_eq C) eq_ok (pf_add false C.hK (pf_var 2) (pf_lst false (pfa_cons (pf_callD false hD_value C (pfa_cons (pf_tup (pfa_cons pf_int pfa_nil)) (pfa_cons (pf_lst false pfa_nil) pfa_nil)) (len_cons (len_cons len_nil))) pfa_nil))) (pf_lst false (pfa_cons pf_int (pfa_cons (pf_tup (pfa_cons pf_int (pfa_cons pf_int pfa_nil))) (pfa_cons (pf_tup (pfa_cons pf_int pfa_nil)) (pfa_cons (pf_tup (pfa_cons pf_int (pfa_cons pf_int (pfa_cons pf_int pfa_nil)))) (pfa_cons pf_int pfa_nil)))))) (nomark _)) (pf_one (pf_callD0 false hD__law_refused C)))))))
end
end FL

set_option Elab.async false
set_option linter.all false
set_option maxRecDepth 100000
set_option maxHeartbeats 1000000
namespace FL
open PySem
theorem nr {α : Sort _} {a b : α} (h : a = b) : a = b := h
/-! ### evaluation of the functional layer by simp -/
@[simp] theorem e_seq (a b : FS) (ρ s) : seqS a b ρ s = (a ρ s).andThen b := nr rfl
@[simp] theorem e_at_nx (r s k) : (Out.nx r s).andThen k = k r s := nr rfl
@[simp] theorem e_at_rt (v s k) : (Out.rt v s).andThen k = .rt v s := nr rfl
@[simp] theorem e_at_exc (e r s k) : (Out.exc e r s).andThen k = .exc e r s := nr rfl
@[simp] theorem e_skip (ρ s) : skipS ρ s = .nx ρ s := nr rfl
@[simp] theorem e_ret (f : FE) (ρ s) : retS f ρ s = (f ρ s).bindS ρ fun v s1 => .rt v s1 := nr rfl
@[simp] theorem e_set (i) (f : FE) (ρ s) : setS i f ρ s = (f ρ s).bindS ρ fun v s1 => .nx (ρ.set i (some v)) s1 := nr rfl
@[simp] theorem e_expr (f : FE) (ρ s) : exprS f ρ s = (f ρ s).bindS ρ fun _ s1 => .nx ρ s1 := nr rfl
@[simp] theorem e_raise (c) (f : FE) (ρ s) : raiseS c f ρ s = (f ρ s).bindS ρ fun v s1 => match v with | .d v => .exc (.exc c ["value"] [v]) ρ s1 | _ => .stuck := nr rfl
@[simp] theorem e_bS (v s ρ k) : (Res.ok v s).bindS ρ k = k v s := nr rfl
@[simp] theorem e_bSx (e s ρ k) : (Res.exc e s).bindS ρ k = .exc e ρ s := nr rfl
@[simp] theorem e_b (v s k) : (Res.ok v s).bind k = k v s := nr rfl
@[simp] theorem e_bx (e s k) : (Res.exc e s).bind k = .exc e s := nr rfl
@[simp] theorem e_bA (v s k) : (Res.ok v s).bindA k = k v s := nr rfl
@[simp] theorem e_bLA (v s k) : (ResL.ok v s).bindA k = k v s := nr rfl
@[simp] theorem e_bL (v s k) : (ResL.ok v s).bind k = k v s := nr rfl
@[simp] theorem e_lit (d ρ s) : litF d ρ s = .ok (.d d) s := nr rfl
@[simp] theorem e_var (i ρ s) : varF i ρ s = match ρ[i]? with | some (some v) => .ok v s | _ => .stuck := nr rfl
@[simp] theorem e_op2 (o f g ρ s) : op2F o f g ρ s = (f ρ s).bind fun x s1 => (g ρ s1).bind fun y s2 => o x y s2 := nr rfl
@[simp] theorem e_nil (ρ s) : nilA ρ s = .ok [] s := nr rfl
@[simp] theorem e_cons (f : FE) (g : FA) (ρ s) : consA f g ρ s = (f ρ s).bindA fun x s1 => (g ρ s1).bindA fun xs s2 => .ok (x :: xs) s2 := nr rfl
@[simp] theorem e_callB (o g ρ s) : callBF o g ρ s = (g ρ s).bind o := nr rfl
@[simp] theorem e_callF (m F dv g ρ s) : callF m F dv g ρ s = (g ρ s).bind fun xs s1 => runC m F (xs ++ dv.map .d) s1 := nr rfl
@[simp] theorem e_callKF (m n k F pm g ρ s) : callKF m n k F pm g ρ s = (g ρ s).bind fun xs s1 => if xs.length = k ∧ (permL pm xs).length = n then runC m F (permL pm xs) s1 else .stuck := nr rfl
@[simp] theorem e_and (f g : FE) (ρ s) : andF f g ρ s = (f ρ s).bind fun x s1 => match x with | .d (.bl true) => g ρ s1 | .d (.bl false) => okB false s1 | _ => .stuck := nr rfl
@[simp] theorem e_or (f g : FE) (ρ s) : orF f g ρ s = (f ρ s).bind fun x s1 => match x with | .d (.bl true) => okB true s1 | .d (.bl false) => g ρ s1 | _ => .stuck := nr rfl
@[simp] theorem e_not (f : FE) (ρ s) : notF f ρ s = (f ρ s).bind fun x s1 => match x with | .d (.bl b) => okB (!b) s1 | _ => .stuck := nr rfl
@[simp] theorem e_if (c a b : FE) (ρ s) : ifF c a b ρ s = (c ρ s).bind fun x s1 => match truth x s1 with | some true => a ρ s1 | some false => b ρ s1 | none => .stuck := nr rfl
@[simp] theorem e_ifS (c : FE) (a b : FS) (ρ s) : ifS c a b ρ s = (c ρ s).bindS ρ fun x s1 => match truth x s1 with | some true => a ρ s1 | some false => b ρ s1 | none => .stuck := nr rfl
@[simp] theorem t_bl (b s) : truth (.d (.bl b)) s = some b := nr rfl
@[simp] theorem e_neg (f : FE) (ρ s) : negF f ρ s = (f ρ s).bind fun x s1 => match x with | .d (.int i) => okI (-i) s1 | _ => .stuck := nr rfl
@[simp] theorem e_bits (f : FE) (ρ s) : bitsF f ρ s = (f ρ s).bind fun x s1 => match x with | .d (.int i) => okI (Builtin.Int.intBits i : Nat) s1 | _ => .stuck := nr rfl
@[simp] theorem e_okI (i s) : okI i s = .ok (.d (.int i)) s := nr rfl
@[simp] theorem e_okB (b s) : okB b s = .ok (.d (.bl b)) s := nr rfl
@[simp] theorem e_add (m i j s) : addX m (.d (.int i)) (.d (.int j)) s = .ok (.d (.int (i + j))) s := nr rfl
@[simp] theorem e_sub (i j s) : subX (.d (.int i)) (.d (.int j)) s = .ok (.d (.int (i - j))) s := nr rfl
theorem e_mod (i j s) (h : 0 < j) : modX (.d (.int i)) (.d (.int j)) s = .ok (.d (.int (i % j))) s := if_pos (decide_eq_true h)
theorem e_div (i j s) (h : 0 < j) (h2 : j.natAbs.log2 < 9000) : fdivX (.d (.int i)) (.d (.int j)) s = .ok (.d (.int (i / j))) s := if_pos (by
  show (decide (0 < j) && decide (j.natAbs.log2 < 9000)) = true
  rw [decide_eq_true h, decide_eq_true h2]
  rfl)
theorem e_mul (m i j s) (h : i.natAbs.log2 + j.natAbs.log2 < 1000000) : mulX m (.d (.int i)) (.d (.int j)) s = .ok (.d (.int (i * j))) s := if_pos h
@[simp] theorem e_lt (i j s) : ltX (.d (.int i)) (.d (.int j)) s = .ok (.d (.bl (decide (i < j)))) s := nr rfl
@[simp] theorem e_le (i j s) : leX (.d (.int i)) (.d (.int j)) s = .ok (.d (.bl (decide (i ≤ j)))) s := nr rfl
@[simp] theorem e_gt (i j s) : gtX (.d (.int i)) (.d (.int j)) s = .ok (.d (.bl (decide (j < i)))) s := nr rfl
@[simp] theorem e_ge (i j s) : geX (.d (.int i)) (.d (.int j)) s = .ok (.d (.bl (decide (j ≤ i)))) s := nr rfl
@[simp] theorem e_int (i s) : intX [.d (.int i)] s = .ok (.d (.int i)) s := nr rfl
theorem log_lt {n k : Nat} (h : n < 2 ^ (k + 1)) : n.log2 ≤ k := by
  by_cases h0 : n = 0
  · subst h0
    exact Nat.zero_le _
  · have q := (Nat.log2_lt h0).mpr h
    omega
theorem logI {i : Int} {k : Nat} (h : -(2 ^ k : Int) < i) (h2 : i < 2 ^ k) : i.natAbs.log2 ≤ k := by
  refine Nat.le_trans (log_lt (k := k) ?_) (Nat.le_refl _)
  have q : i.natAbs < 2 ^ k := by
    have e : ((2 ^ k : Nat) : Int) = (2 : Int) ^ k := by norm_cast
    omega
  exact Nat.lt_of_lt_of_le q (Nat.pow_le_pow_right (by decide) (Nat.le_succ k))
@[simp] theorem g_zero {α : Type} (a : α) (l : List α) : (a :: l)[0]? = some a := rfl
@[simp] theorem g_succ {α : Type} (a : α) (l : List α) (i : Nat) : (a :: l)[i + 1]? = l[i]? := rfl
/-- a number that is not large -/
def Bd (i : Int) : Prop := -(2 ^ 400 : Int) < i ∧ i < 2 ^ 400
theorem e_mul2 (m i j s) (h : Bd i) (k : Bd j) : mulX m (.d (.int i)) (.d (.int j)) s = .ok (.d (.int (i * j))) s := e_mul m i j s (by
  have q1 := logI h.1 h.2
  have q2 := logI k.1 k.2
  omega)
def runOut : Out → Res
  | .nx _ s' => .ok (.d .non) s'
  | .rt v s' => .ok v s'
  | .exc e _ s' => .exc e s'
  | _ => .stuck
theorem e_body (n f ds s) : bodyF n f ds s = runOut (f (ds.map some ++ List.replicate n none) s) := rfl
@[simp] theorem e_out1 (r s) : runOut (.nx r s) = .ok (.d .non) s := nr rfl
@[simp] theorem e_out2 (v s) : runOut (.rt v s) = .ok v s := nr rfl
@[simp] theorem e_out3 (e r s) : runOut (.exc e r s) = .exc e s := nr rfl
theorem run0_d {m : Bool} {F : Fn} {xs : List Xv} {s s2 : Sto} {v : D} (h : F xs [] = .ok (.d v) s2) (h0 : refsOf xs = []) : runC m F xs s = .ok (.d v) s := by
  unfold runC
  rw [h0]
  dsimp only
  unfold run0
  rw [h]
theorem run1_d {m : Bool} {F : Fn} {xs : List Xv} {rest s2 : Sto} {o o2 : List D} {v : D} (h : F (.ref 0 :: zero xs) [.lst o] = .ok (.d v) (.lst o2 :: s2)) (h0 : refsOf xs = []) : runC m F (.ref 0 :: xs) (.lst o :: rest) = .ok (.d v) (.lst o2 :: rest) := by
  unfold runC
  show (if allEq 0 (refsOf xs) = true then run1 m F (.ref 0 :: xs) 0 (.lst o :: rest) else .stuck) = _
  rw [h0]
  rw [if_pos (by rfl)]
  unfold run1
  show (match F (.ref 0 :: zero xs) [.lst o] with
    | .ok (.d v) s2 => match get0 s2 with | some o2 => Res.ok (.d v) ((O.lst o :: rest).set 0 o2) | none => .stuck
    | .ok (.ref j) s2 => match get0 s2 with
      | some o2 => if j = 0 then .ok (.ref 0) ((O.lst o :: rest).set 0 o2) else match s2[j]? with | some u => mkO m u ((O.lst o :: rest).set 0 o2) | none => .stuck
      | none => .stuck
    | .exc e s2 => match get0 s2 with | some o2 => .exc e ((O.lst o :: rest).set 0 o2) | none => .stuck
    | .stuck => .stuck) = _
  rw [h]
  rfl
/-! ### loops -/
theorem forF_inv {asg : Xv → Env' → Option Env'} {b : FS} (I : Nat → Env' → Sto → Prop) : ∀ (xs : List D) (i : Nat) {ρ : Env'} {s : Sto}, I i ρ s → (∀ (j : Nat) (x : D) (ρ : Env') (s : Sto), xs[j]? = some x → I (i + j) ρ s → ∃ r r' s', asg (.d x) ρ = some r ∧ b r s = .nx r' s' ∧ I (i + j + 1) r' s') →
    ∃ ρ' s', forF asg b xs ρ s = .nx ρ' s' ∧ I (i + xs.length) ρ' s'
  | [], i, ρ, s, h0, _ => ⟨ρ, s, rfl, h0⟩
  | x :: xs, i, ρ, s, h0, hs => by
    obtain ⟨r, r', s', e1, e2, e3⟩ := hs 0 x ρ s rfl h0
    obtain ⟨ρ2, s2, e4, e5⟩ := forF_inv I xs (i + 1) e3 (fun j y ρ s hj hI => by
      have q := hs (j + 1) y ρ s (by simpa using hj) (by rw [show i + (j + 1) = i + 1 + j by omega]; exact hI)
      rw [show i + (j + 1) + 1 = i + 1 + j + 1 by omega] at q
      exact q)
    refine ⟨ρ2, s2, ?_, by rw [List.length_cons, show i + (xs.length + 1) = i + 1 + xs.length by omega]; exact e5⟩
    unfold forF
    rw [e1]
    dsimp only
    rw [e2]
    exact e4
@[simp] theorem e_for (asg f b ρ s) : forS asg f b ρ s = (f ρ s).bindS ρ fun x s1 => match x with | .d (.lst xs) => forF asg b xs ρ s1 | _ => .stuck := nr rfl
@[simp] theorem e_name (i x ρ) : nameG i x ρ = some (ρ.set i (some x)) := nr rfl
theorem compN_st {asg : Xv → Env' → Option Env'} {f : FE} {ρ : Env'} (P : D → Prop) (J : Nat → Sto → Prop) : ∀ (xs : List D) (i : Nat) {s : Sto}, J i s → (∀ (j : Nat) (x : D) (s : Sto), xs[j]? = some x → J (i + j) s → ∃ r y s', asg (.d x) ρ = some r ∧ f r s = .ok (.d y) s' ∧ P y ∧ J (i + j + 1) s') →
    ∃ ys s', compN asg yesF f ρ xs s = some (ys, s') ∧ ys.length = xs.length ∧ (∀ y ∈ ys, P y) ∧ J (i + xs.length) s'
  | [], i, s, h0, _ => ⟨[], s, rfl, rfl, (fun y hy => nomatch hy), h0⟩
  | x :: xs, i, s, h0, hs => by
    obtain ⟨r, y, s', e1, e2, e3, e4⟩ := hs 0 x s rfl h0
    obtain ⟨ys, s2, e5, e6, e7, e8⟩ := compN_st P J xs (i + 1) (s := s') e4 (fun j y s hj hI => by
      have q := hs (j + 1) y s (by simpa using hj) (by rw [show i + (j + 1) = i + 1 + j by omega]; exact hI)
      rw [show i + (j + 1) + 1 = i + 1 + j + 1 by omega] at q
      exact q)
    refine ⟨y :: ys, s2, ?_, by simp [e6], fun z hz => ?_, by rw [List.length_cons, show i + (xs.length + 1) = i + 1 + xs.length by omega]; exact e8⟩
    · unfold compN
      rw [e1]
      show (match f r s with
          | .ok (.d y) s2 => match compN asg yesF f ρ xs s2 with
            | some (ys, s3) => some (y :: ys, s3)
            | none => none
          | _ => none) = _
      rw [e2]
      dsimp only
      rw [e5]
    · rcases List.mem_cons.mp hz with rfl | hz
      · exact e3
      · exact e7 z hz
theorem compN_map {asg : Xv → Env' → Option Env'} {f : FE} {ρ : Env'} {s : Sto} (g : D → D) : ∀ (xs : List D), (∀ x ∈ xs, ∃ r, asg (.d x) ρ = some r ∧ f r s = .ok (.d (g x)) s) → compN asg yesF f ρ xs s = some (xs.map g, s)
  | [], _ => rfl
  | x :: xs, h => by
    obtain ⟨r, e1, e2⟩ := h x (List.mem_cons_self ..)
    have e5 := compN_map g xs (fun y hy => h y (List.mem_cons_of_mem _ hy))
    unfold compN
    rw [e1]
    show (match f r s with
          | .ok (.d y) s2 => match compN asg yesF f ρ xs s2 with
            | some (ys, s3) => some (y :: ys, s3)
            | none => none
          | _ => none) = _
    rw [e2]
    dsimp only
    rw [e5]
    rfl
theorem compN_filter {asg : Xv → Env' → Option Env'} {t f : FE} {ρ : Env'} {s : Sto} (b : D → Bool) : ∀ (xs : List D), (∀ x ∈ xs, ∃ r, asg (.d x) ρ = some r ∧ t r s = .ok (.d (.bl (b x))) s ∧ f r s = .ok (.d x) s) → compN asg t f ρ xs s = some (xs.filter b, s)
  | [], _ => rfl
  | x :: xs, h => by
    obtain ⟨r, e1, e2, e3⟩ := h x (List.mem_cons_self ..)
    have e5 := compN_filter b xs (fun y hy => h y (List.mem_cons_of_mem _ hy))
    unfold compN
    rw [e1]
    dsimp only
    rw [e2]
    dsimp only
    cases hb : b x with
    | true =>
      rw [List.filter_cons_of_pos hb]
      show (match f r s with
          | .ok (.d y) s2 => match compN asg t f ρ xs s2 with
            | some (ys, s3) => some (y :: ys, s3)
            | none => none
          | _ => none) = _
      rw [e3]
      dsimp only
      rw [e5]
    | false =>
      rw [List.filter_cons_of_neg (by rw [hb]; exact Bool.false_ne_true)]
      exact e5
@[simp] theorem e_lc (m own asg f t g ρ s) : lcF m own asg f t g ρ s = (f ρ s).bind fun x s1 => match x with
  | .d (.lst xs) => if xs.length ≤ 1000000 then finL m [] (compN asg t g (wipeF ρ own) xs s1) else .stuck
  | _ => .stuck := nr rfl
@[simp] theorem e_wipe0 (ρ) : wipeF ρ [] = ρ := nr rfl
@[simp] theorem e_wipe1 (ρ v vs) : wipeF ρ (v :: vs) = (wipeF ρ vs).set v none := nr rfl
def rngK (xs : List Xv) (s1 : Sto) : Res := match xs with
  | [.d (.int j)] => if -(2 ^ 62) ≤ j ∧ j < 2 ^ 62 then .ok (.d (.lst (rngD 0 j.toNat))) s1 else .stuck
  | _ => .stuck
@[simp] theorem e_rng1 (g ρ s) : rng1F g ρ s = (g ρ s).bind rngK := nr rfl
theorem e_rng (j s) (h : 0 ≤ j) (h2 : j ≤ 1000000) : rngK [.d (.int j)] s = .ok (.d (.lst (rngD 0 j.toNat))) s := if_pos ⟨by omega, by omega⟩
theorem rng_len (lo n) : (rngD lo n).length = n := by unfold rngD; simp
theorem rng_at {lo : Int} {n j : Nat} {x : D} (h : (rngD lo n)[j]? = some x) : j < n ∧ x = .int (lo + j) := by
  have hj : j < n := by
    have := (List.getElem?_eq_some_iff.mp h).1
    rwa [rng_len] at this
  unfold rngD at h
  rw [List.getElem?_map, List.getElem?_range hj] at h
  cases h
  exact ⟨hj, rfl⟩
/-! ### the generator -/
abbrev gen (a b c : Int) : O := .lst [.int a, .int b, .int c]
def GI (n : Nat) (o : O) : Prop := ∃ a b c, o = gen a b c ∧ 0 ≤ a ∧ 0 ≤ b ∧ b < 2147483647 ∧ 0 ≤ c ∧ c + 4 * (n : Int) ≤ 10 ^ 6
theorem hash_ok (x i : Int) (hx : 0 ≤ x) (hx2 : x < 2 ^ 40) (hi : 0 ≤ i) (hi2 : i < 2 ^ 40) : ∃ h, F__law_hash [.d (.int x), .d (.int i)] [] = .ok (.d (.int h)) [] ∧ 0 ≤ h ∧ h < 2147483647 := by
  suffices q : ∃ k : Int, F__law_hash [.d (.int x), .d (.int i)] [] = .ok (.d (.int (k % 2147483647))) [] by
    obtain ⟨k, q⟩ := q
    exact ⟨_, q, Int.emod_nonneg _ (by decide), Int.emod_lt_of_pos _ (by decide)⟩
  unfold F__law_hash S__law_hash bodyF
  simp (disch := first | omega | (unfold Bd; omega)) [e_mul2, e_mod]
  exact ⟨_, rfl⟩
end FL

set_option Elab.async false
set_option linter.all false
set_option maxRecDepth 100000
set_option maxHeartbeats 1000000
namespace FL
open PySem
@[simp] theorem ix_gen0 (a b c r) : ixX (.ref 0) (.d (.int 0)) (gen a b c :: r) = .ok (.d (.int a)) (gen a b c :: r) := nr rfl
@[simp] theorem ix_gen1 (a b c r) : ixX (.ref 0) (.d (.int 1)) (gen a b c :: r) = .ok (.d (.int b)) (gen a b c :: r) := nr rfl
@[simp] theorem ix_gen2 (a b c r) : ixX (.ref 0) (.d (.int 2)) (gen a b c :: r) = .ok (.d (.int c)) (gen a b c :: r) := nr rfl
@[simp] theorem e_setIx0 (fv : FE) (v a b c r ρ s) (h : fv ρ s = .ok (.d v) (gen a b c :: r)) (h0 : ρ[0]? = some (some (.ref 0))) : setIxS fv (varF 0) (litF (.int 0)) ρ s = .nx ρ (.lst [v, .int b, .int c] :: r) := by
  unfold setIxS
  rw [h]
  simp [h0]
  rfl
@[simp] theorem e_setIx2 (fv : FE) (v a b c r ρ s) (h : fv ρ s = .ok (.d v) (gen a b c :: r)) (h0 : ρ[0]? = some (some (.ref 0))) : setIxS fv (varF 0) (litF (.int 2)) ρ s = .nx ρ (.lst [.int a, .int b, v] :: r) := by
  unfold setIxS
  rw [h]
  simp [h0]
  rfl
/-- the bounds that are asked for -/
structure BdOk (bd : Int) (t : Nat) : Prop where
  pos : 0 < bd
  lg : bd.natAbs.log2 < 9000
  tn : 1 + (Builtin.Int.intBits bd : Int) / 30 = (t : Int)
  le : t ≤ 4
theorem bd3 : BdOk 3 1 := ⟨by decide, by decide +kernel, by decide +kernel, by decide⟩
theorem bd4 : BdOk 4 1 := ⟨by decide, by decide +kernel, by decide +kernel, by decide⟩
theorem bd5 : BdOk 5 1 := ⟨by decide, by decide +kernel, by decide +kernel, by decide⟩
theorem bd9 : BdOk 9 1 := ⟨by decide, by decide +kernel, by decide +kernel, by decide⟩
theorem bd25 : BdOk (10 ^ 25) 3 := ⟨by decide, by decide +kernel, by decide +kernel, by decide⟩
theorem bd30 : BdOk (10 ^ 30) 4 := ⟨by decide, by decide +kernel, by decide +kernel, by decide⟩
theorem turn_ok {bd d a b c : Int} {x : Xv} (h0 : 0 ≤ d) (h1 : d < 10000000000000000000000000000000000000000) (hb : 0 ≤ b) (hb2 : b < 2147483647) (hc : 0 ≤ c) (hc2 : c < 10 ^ 6) :
    ∃ h, B0__law_random [some (.ref 0), some (.d (.int bd)), some (.d (.int d)), some x] [gen a b c] = .nx [some (.ref 0), some (.d (.int bd)), some (.d (.int (d * 2147483587 + h))), some x] [gen a b (c + 1)] ∧ 0 ≤ h ∧ h < 2147483647 := by
  obtain ⟨h, e1, e2, e3⟩ := hash_ok b (c + 1) hb (by omega) (by omega) (by omega)
  refine ⟨h, ?_, e2, e3⟩
  unfold B0__law_random
  rw [e_seq, e_setIx2 (v := .int (c + 1)) (a := a) (b := b) (c := c) (r := [])]
  · have q : runC false F__law_hash [.d (.int b), .d (.int (c + 1))] [gen a b (c + 1)] = .ok (.d (.int h)) [gen a b (c + 1)] := run0_d e1 rfl
    simp (disch := first | omega | (unfold Bd; omega)) [e_mul2]
    show Res.bindS (Res.bind (runC false F__law_hash [.d (.int b), .d (.int (c + 1))] [gen a b (c + 1)]) _) _ _ = _
    rw [q]
    rfl
  · simp
  · rfl
def Mb : Nat → Int
  | 0 => 2
  | 1 => 10000000000000
  | 2 => 100000000000000000000000
  | 3 => 1000000000000000000000000000000000
  | _ => 10000000000000000000000000000000000000000000
theorem random_step {bd : Int} {t n : Nat} {b c : Int} (ht : t ≤ 4) (h1 : 0 ≤ b) (h2 : b < 2147483647) (h3 : 0 ≤ c) (h4 : c + 4 * (n + 1) ≤ 10 ^ 6) (j : Nat) (x : D) (ρ : Env') (s : Sto) (hj : (rngD 0 t)[j]? = some x)
    (hI : ∃ (d c' : Int) (x : Option Xv), ρ = [some (.ref 0), some (.d (.int bd)), some (.d (.int d)), x] ∧ s = [gen 0 b c'] ∧ 0 ≤ d ∧ d < Mb (0 + j) ∧ c' = c + (0 + j : Nat)) :
    ∃ r r' s', nameG 3 (.d x) ρ = some r ∧ B0__law_random r s = .nx r' s' ∧ (∃ (d c' : Int) (x : Option Xv), r' = [some (.ref 0), some (.d (.int bd)), some (.d (.int d)), x] ∧ s' = [gen 0 b c'] ∧ 0 ≤ d ∧ d < Mb (0 + j + 1) ∧ c' = c + (0 + j + 1 : Nat)) := by
  obtain ⟨d, c', x0, rfl, rfl, d0, d1, rfl⟩ := hI
  have hjt := (rng_at hj).1
  have hj4 : j = 0 ∨ j = 1 ∨ j = 2 ∨ j = 3 := by omega
  have d2 : d < 10000000000000000000000000000000000000000 := by
    rcases hj4 with e | e | e | e <;> subst e <;> (unfold Mb at d1; simp at d1; omega)
  obtain ⟨h, e1, e2, e3⟩ := turn_ok (bd := bd) (d := d) (a := 0) (b := b) (c := c + ((0 + j : Nat) : Int)) (x := .d x) d0 d2 h1 h2 (by omega) (by omega)
  refine ⟨_, _, _, rfl, e1, d * 2147483587 + h, _, _, rfl, rfl, by omega, ?_, by push_cast; omega⟩
  rcases hj4 with e | e | e | e <;> subst e <;> (unfold Mb at d1 ⊢; simp at d1 ⊢; omega)
theorem random_a {bd : Int} {t : Nat} {a b c : Int} (hb : BdOk bd t) (h0 : 0 < a) : F__law_random [.ref 0, .d (.int bd)] [gen a b c] = .ok (.d (.int (a % bd))) [gen (a / bd) b c] := by
  have hp := hb.pos
  unfold F__law_random S__law_random bodyF
  simp [h0, e_mod _ _ _ hp]
  rw [e_setIx0 (v := .int (a / bd)) (a := a) (b := b) (c := c) (r := [])]
  · simp
    trace_state
  · simp [e_div _ _ _ hp hb.lg]
  · simp
theorem random_b {bd d z : Int} {t : Nat} {b c c' : Int} {x : Option Xv} (hz : ¬ 0 < z) (hb : BdOk bd t) (e1 : forF (nameG 3) B0__law_random (rngD 0 t) [some (.ref 0), some (.d (.int bd)), some (.d (.int 0)), none] [gen z b c] = .nx [some (.ref 0), some (.d (.int bd)), some (.d (.int d)), x] [gen z b c']) :
    F__law_random [.ref 0, .d (.int bd)] [gen z b c] = .ok (.d (.int (d % bd))) [gen z b c'] := by
  have hp := hb.pos
  have tn := hb.tn
  have le := hb.le
  unfold F__law_random S__law_random
  rw [e_body]
  simp [hz, e_mod _ _ _ hp, e_div _ _ _ (show (0 : Int) < 30 by decide) (by decide +kernel), tn]
  rw [e_rng _ _ (by omega) (by omega)]
  simp
  rw [e1]
  simp [e_mod _ _ _ hp]
theorem random_ok {n : Nat} {o : O} {bd : Int} {t : Nat} (hg : GI (n + 1) o) (hb : BdOk bd t) : ∃ r o', F__law_random [.ref 0, .d (.int bd)] [o] = .ok (.d (.int r)) [o'] ∧ 0 ≤ r ∧ r < bd ∧ GI n o' := by
  obtain ⟨a, b, c, rfl, ha, h1, h2, h3, h4⟩ := hg
  have hp := hb.pos
  have le := hb.le
  by_cases h0 : 0 < a
  · exact ⟨a % bd, gen (a / bd) b c, random_a hb h0, Int.emod_nonneg _ (by omega), Int.emod_lt_of_pos _ hp, a / bd, b, c, rfl, Int.ediv_nonneg ha (by omega), h1, h2, h3, by omega⟩
  · have ha0 : a = 0 := by omega
    subst ha0
    obtain ⟨ρ', s', e1, d, c', x, rfl, rfl, d0, d1, rfl⟩ := forF_inv (asg := nameG 3) (b := B0__law_random) (fun i ρ s => ∃ (d c' : Int) (x : Option Xv), ρ = [some (.ref 0), some (.d (.int bd)), some (.d (.int d)), x] ∧ s = [gen 0 b c'] ∧ 0 ≤ d ∧ d < Mb i ∧ c' = c + i) (rngD 0 t) 0
      (ρ := [some (.ref 0), some (.d (.int bd)), some (.d (.int 0)), none]) (s := [gen 0 b c]) ⟨0, c, none, rfl, rfl, Int.le_refl 0, by decide, by simp⟩ (random_step (n := n) le h1 h2 h3 (by push_cast at h4; exact h4))
    have hl := rng_len 0 t
    exact ⟨d % bd, gen 0 b (c + ((0 + (rngD 0 t).length : Nat) : Int)), random_b (by decide) hb e1, Int.emod_nonneg _ (by omega), Int.emod_lt_of_pos _ hp, 0, b, _, rfl, Int.le_refl 0, h1, h2, by omega, by rw [hl]; push_cast at h4 ⊢; omega⟩
end FL

set_option Elab.async false
set_option linter.all false
set_option maxRecDepth 100000
set_option maxHeartbeats 1000000
namespace FL
open PySem
abbrev nsD (xs : List Int) : List D := xs.map .int
def isCnt : D → Bool
  | .int n => decide (0 ≤ n)
  | _ => false
def pl : D → Bool
  | .non => true
  | .bl _ => true
  | .int _ => true
  | .str _ => true
  | .tup _ => true
  | .lst _ => true
  | _ => false
def dot (f0 : Int) : List Int → List Int → Int
  | f :: fs, x :: xs => dot (f0 + f * x) fs xs
  | _, _ => f0
@[simp] theorem is_tup_t (xs s) : isEX nC subB ownB exB [.d (.tup xs), .d (.ty "tuple")] s = .ok (.d (.bl true)) s := nr rfl
@[simp] theorem is_lst_t (xs s) : isEX nC subB ownB exB [.d (.lst xs), .d (.ty "tuple")] s = .ok (.d (.bl false)) s := nr rfl
@[simp] theorem is_int_t (xs s) : isEX nC subB ownB exB [.d (.int xs), .d (.ty "tuple")] s = .ok (.d (.bl false)) s := nr rfl
@[simp] theorem is_str_t (xs s) : isEX nC subB ownB exB [.d (.str xs), .d (.ty "tuple")] s = .ok (.d (.bl false)) s := nr rfl
@[simp] theorem is_non_t (s) : isEX nC subB ownB exB [.d .non, .d (.ty "tuple")] s = .ok (.d (.bl false)) s := nr rfl
@[simp] theorem is_lst_l (xs s) : isEX nC subB ownB exB [.d (.lst xs), .d (.ty "list")] s = .ok (.d (.bl true)) s := nr rfl
@[simp] theorem len_t (xs s) : lenX [.d (.tup xs)] s = .ok (.d (.int xs.length)) s := nr rfl
@[simp] theorem len_l (xs s) : lenX [.d (.lst xs)] s = .ok (.d (.int xs.length)) s := nr rfl
@[simp] theorem eq_ii (n i j s) : eqX n (.d (.int i)) (.d (.int j)) s = .ok (.d (.bl (if n then !decide (i = j) else decide (i = j)))) s := by
  have e : PyData.eqv (toP (.int i)) (toP (.int j)) = decide (i = j) := by
    unfold toP PyData.eqv
    by_cases h : i = j
    · subst h; simp
    · simp [h]
  unfold eqX eqView
  dsimp only
  rw [if_pos (show (flatS 32 (.int i) && flatS 32 (.int j)) = true from rfl), e]
  rfl
@[simp] theorem none_n (n s) : isNoneX n (.d .non) (.d .non) s = .ok (.d (.bl (!n))) s := nr rfl
@[simp] theorem none_i (n i s) : isNoneX n (.d (.int i)) (.d .non) s = .ok (.d (.bl n)) s := nr rfl
@[simp] theorem isbl_b (n a b s) : isBlX n (.d (.bl a)) (.d (.bl b)) s = .ok (.d (.bl (if n then !decide (a = b) else decide (a = b)))) s := nr rfl
def isI : D → Bool
  | .int _ => true
  | _ => false
theorem is_whole_v (x : D) (h : pl x = true) : F_is_whole [.d x] [] = .ok (.d (.bl (isI x))) [] := by
  cases x with
  | bl b => cases b <;> rfl
  | non => rfl
  | int _ => rfl
  | str _ => rfl
  | tup _ => rfl
  | lst _ => rfl
  | _ => cases h
theorem between_v (x : D) (h : pl x = true) : F_is_between [.d x, .d (.int 0), .d .non] [] = .ok (.d (.bl (isCnt x))) [] := by
  have q : runC false F_is_whole [.d x] [] = .ok (.d (.bl (isI x))) [] := run0_d (is_whole_v x h) rfl
  unfold F_is_between S_is_between
  rw [e_body]
  simp [q]
  cases x with
  | int n =>
    simp [isI, isCnt]
    by_cases h0 : 0 ≤ n <;> simp [h0]
  | bl _ => simp [isI, isCnt]
  | non => simp [isI, isCnt]
  | str _ => simp [isI, isCnt]
  | tup _ => simp [isI, isCnt]
  | lst _ => simp [isI, isCnt]
  | _ => cases h
theorem between2_v (n a b : Int) : F_is_between [.d (.int n), .d (.int a), .d (.int b)] [] = .ok (.d (.bl (decide (a ≤ n) && decide (n ≤ b)))) [] := by
  have q : runC false F_is_whole [.d (.int n)] [] = .ok (.d (.bl true)) [] := run0_d (is_whole_v _ rfl) rfl
  unfold F_is_between S_is_between
  rw [e_body]
  simp [q]
  by_cases h0 : a ≤ n <;> simp [h0]
theorem eq_nil (xs : List D) (s) (h : flatS 32 (.lst xs) = true) : eqX false (.d (.lst xs)) (.d (.lst [])) s = .ok (.d (.bl xs.isEmpty)) s := by
  unfold eqX eqView
  dsimp only
  rw [if_pos (by rw [h]; rfl)]
  cases xs with
  | nil => rfl
  | cons a l =>
    unfold toP toPs PyData.eqv PyData.eqvAll
    rfl
theorem filt_emp (xs : List D) : (xs.filter (fun x => !isCnt x)).isEmpty = xs.all isCnt := by
  induction xs with
  | nil => rfl
  | cons a l ih =>
    rw [List.all_cons, List.filter_cons]
    cases h : isCnt a <;> simp [ih]
theorem flat_filter {n : Nat} {xs : List D} (f : D → Bool) (h : flatS (n + 1) (.lst xs) = true) : flatS (n + 1) (.lst (xs.filter f)) = true := by
  unfold flatS at h ⊢
  rw [List.all_eq_true] at h ⊢
  exact fun x hx => h x (List.mem_filter.mp hx).1
theorem flat_tl {n : Nat} {xs : List D} : flatS (n + 1) (.tup xs) = flatS (n + 1) (.lst xs) := by
  unfold flatS; rfl
theorem counts_c (xs : List D) (h : ∀ x ∈ xs, pl x = true) (o : D) : compN (nameG 1) T0_are_counts E1_are_counts [some (.d o), none] xs [] = some (xs.filter (fun x => !isCnt x), []) := by
  refine compN_filter _ xs fun x hx => ⟨_, rfl, ?_, rfl⟩
  have q : runC false F_is_between [.d x, .d (.int 0), .d .non] [] = .ok (.d (.bl (isCnt x))) [] := run0_d (between_v x (h x hx)) rfl
  unfold T0_are_counts
  simp [q]
theorem counts_v (xs : List D) (h : ∀ x ∈ xs, pl x = true) (hf : flatS 32 (.lst xs) = true) (hl : xs.length ≤ 1000000) : F_are_counts [.d (.lst xs)] [] = .ok (.d (.bl (xs.all isCnt))) [] ∧ F_are_counts [.d (.tup xs)] [] = .ok (.d (.bl (xs.all isCnt))) [] := by
  refine ⟨?_, ?_⟩ <;>
  · unfold F_are_counts S_are_counts
    rw [e_body]
    unfold iterF lstF lcF
    simp [counts_c xs h, hl, finL, mkL, pureAll]
    rw [eq_nil _ _ (flat_filter _ hf)]
    simp [filt_emp]
end FL

set_option Elab.async false
set_option linter.all false
set_option maxRecDepth 100000
set_option maxHeartbeats 1000000
namespace FL
open PySem
/-- data the counting looks at -/
structure Ok (xs : List D) : Prop where
  pl : ∀ x ∈ xs, pl x = true
  fl : flatS 32 (.lst xs) = true
  le : xs.length ≤ 1000
theorem ok_ns {xs : List Int} (h : xs.length ≤ 1000) : Ok (nsD xs) := by
  refine ⟨fun x hx => ?_, ?_, by rw [List.length_map]; exact h⟩
  · obtain ⟨n, _, rfl⟩ := List.mem_map.mp hx
    rfl
  · unfold flatS
    rw [List.all_eq_true]
    intro x hx
    obtain ⟨n, _, rfl⟩ := List.mem_map.mp hx
    rfl
theorem all_ns {xs : List Int} (h : ∀ x ∈ xs, 0 ≤ x) : (nsD xs).all isCnt = true := by
  rw [List.all_eq_true]
  intro x hx
  obtain ⟨n, hn, rfl⟩ := List.mem_map.mp hx
  exact decide_eq_true (h n hn)
theorem point_v (m : Int) {xs : List D} (h : Ok xs) : F_is_point [.d (.int m), .d (.lst xs)] [] = .ok (.d (.bl (decide ((xs.length : Int) = m) && xs.all isCnt))) [] := by
  have q : runC false F_are_counts [.d (.lst xs)] [] = .ok (.d (.bl (xs.all isCnt))) [] := run0_d (counts_v xs h.pl h.fl (by have := h.le; omega)).1 rfl
  unfold F_is_point S_is_point
  rw [e_body]
  simp [q]
  by_cases h0 : (xs.length : Int) = m <;> simp [h0]
theorem form_for_v (m : Int) {xs : List D} (h : Ok xs) : F_is_form_for [.d (.int m), .d (.tup xs)] [] = .ok (.d (.bl (decide ((xs.length : Int) = m + 1) && xs.all isCnt))) [] := by
  have q : runC false F_are_counts [.d (.tup xs)] [] = .ok (.d (.bl (xs.all isCnt))) [] := run0_d (counts_v xs h.pl h.fl (by have := h.le; omega)).2 rfl
  unfold F_is_form_for S_is_form_for
  rw [e_body]
  simp [q]
  by_cases h0 : (xs.length : Int) = m + 1 <;> simp [h0]
/-- no tuple -/
def noT : D → Bool
  | .non => true
  | .int _ => true
  | .str _ => true
  | .lst _ => true
  | _ => false
theorem form_for_n (m : Int) {x : D} (h : noT x = true) : F_is_form_for [.d (.int m), .d x] [] = .ok (.d (.bl false)) [] := by
  unfold F_is_form_for S_is_form_for
  rw [e_body]
  cases x <;> first | (cases h; done) | simp
theorem check_number_v (n a b : Int) (h : a ≤ n ∧ n ≤ b) : F_check_number [.d (.int n), .d (.int a), .d (.int b)] [] = .ok (.d .non) [] := by
  have q : runC false F_is_between [.d (.int n), .d (.int a), .d (.int b)] [] = .ok (.d (.bl (decide (a ≤ n) && decide (n ≤ b)))) [] := run0_d (between2_v n a b) rfl
  unfold F_check_number S_check_number
  rw [e_body]
  simp [q, h]
theorem check_many_v (n : Int) (h : 0 ≤ n ∧ n ≤ 3) : F_check_many [.d (.int n)] [] = .ok (.d .non) [] := by
  have q : runC false F_check_number [.d (.int n), .d (.int 0), .d (.int 3)] [] = .ok (.d .non) [] := run0_d (check_number_v n 0 3 h) rfl
  unfold F_check_many S_check_many
  rw [e_body]
  simp [q]
theorem check_point_v (m : Int) {xs : List D} (h : Ok xs) (h1 : (xs.length : Int) = m) (h2 : xs.all isCnt = true) : F_check_point [.d (.int m), .d (.lst xs)] [] = .ok (.d .non) [] := by
  have q : runC false F_is_point [.d (.int m), .d (.lst xs)] [] = .ok (.d (.bl true)) [] := run0_d (by rw [point_v m h, h2, decide_eq_true h1]; rfl) rfl
  unfold F_check_point S_check_point
  rw [e_body]
  simp [q]
theorem is_form_v (m : Int) {xs : List D} (hm : 0 ≤ m ∧ m ≤ 3) (h : Ok xs) : F_is_form [.d (.int m), .d (.tup xs)] [] = .ok (.d (.bl (decide ((xs.length : Int) = m + 1) && xs.all isCnt))) [] := by
  have q : runC false F_is_form_for [.d (.int m), .d (.tup xs)] [] = .ok (.d (.bl (decide ((xs.length : Int) = m + 1) && xs.all isCnt))) [] := run0_d (form_for_v m h) rfl
  have q2 : runC false F_check_many [.d (.int m)] [] = .ok (.d .non) [] := run0_d (check_many_v m hm) rfl
  unfold F_is_form S_is_form
  rw [e_body]
  simp [q, q2]
theorem is_form_n (m : Int) {x : D} (hm : 0 ≤ m ∧ m ≤ 3) (h : noT x = true) : F_is_form [.d (.int m), .d x] [] = .ok (.d (.bl false)) [] := by
  have q : runC false F_is_form_for [.d (.int m), .d x] [] = .ok (.d (.bl false)) [] := run0_d (form_for_n m h) rfl
  have q2 : runC false F_check_many [.d (.int m)] [] = .ok (.d .non) [] := run0_d (check_many_v m hm) rfl
  unfold F_is_form S_is_form
  rw [e_body]
  simp [q, q2]
@[simp] theorem e_chain (o o' f g h ρ s) : chainF o o' f g h ρ s = (f ρ s).bind fun x s1 => (g ρ s1).bind fun y s2 => (o x y s2).bind (chainK o' h ρ y) := nr rfl
@[simp] theorem e_chk1 (o' h ρ y s) : chainK o' h ρ y (.d (.bl true)) s = (h ρ s).bind fun v s4 => o' y v s4 := nr rfl
@[simp] theorem e_chk2 (o' h ρ y s) : chainK o' h ρ y (.d (.bl false)) s = .ok (.d (.bl false)) s := nr rfl
/-- a form of the kit's size -/
structure Fm (n : Nat) (xs : List D) : Prop where
  ok : Ok xs
  len : xs.length = n + 1
  cnt : xs.all isCnt = true
theorem any_form_v {n : Nat} {xs : List D} (h : Fm n xs) (hn : n ≤ 3) : F_is_any_form [.d (.tup xs)] [] = .ok (.d (.bl true)) [] := by
  have q : runC false F_is_form_for [.d (.int (n : Int)), .d (.tup xs)] [] = .ok (.d (.bl true)) [] := run0_d (by rw [form_for_v _ h.ok, h.cnt, decide_eq_true (by rw [h.len]; push_cast; rfl)]; rfl) rfl
  have e1 : ((n : Int) + 1 - 1) = n := by omega
  have h1 : (1 : Int) ≤ (n : Int) + 1 := by omega
  have h2 : (n : Int) + 1 ≤ 4 := by omega
  unfold F_is_any_form S_is_any_form
  rw [e_body]
  simp [h.len, e1, h1, h2, q]
theorem check_any_v {n : Nat} {xs : List D} (h : Fm n xs) (hn : n ≤ 3) : F_check_any_form [.d (.tup xs)] [] = .ok (.d .non) [] := by
  have q : runC false F_is_any_form [.d (.tup xs)] [] = .ok (.d (.bl true)) [] := run0_d (any_form_v h hn) rfl
  unfold F_check_any_form S_check_any_form
  rw [e_body]
  simp [q]
end FL

set_option Elab.async false
set_option linter.all false
set_option maxRecDepth 100000
set_option maxHeartbeats 1000000
namespace FL
open PySem PySem.Spec PyProof.Rows L2
@[simp] theorem at_0 (a : D) (l : List D) : atI (a :: l) 0 = some a := by
  unfold atI ixN
  simp
@[simp] theorem ix_tup0 (a l s) : ixX (.d (.tup (a :: l))) (.d (.int 0)) s = .ok (.d a) s := by
  show (match atI (a :: l) 0 with | some v => Res.ok (.d v) s | none => .stuck) = _
  rw [at_0]
theorem cut1 (a : D) (l : List D) : cutD (a :: l) (some 1) none = l := by
  unfold cutD
  have e1 : HT.sIx (a :: l).length 0 (some 1) = 1 := by
    show min 1 (l.length + 1) = 1
    omega
  rw [e1, HT.sIx_none]
  show l.take ((l.length + 1) - 1) = l
  rw [Nat.add_sub_cancel, List.take_length]
@[simp] theorem e_sl1 (a : D) (l : List D) (s) : slX false (.d (.tup (a :: l))) (.d (.int 1)) (.d .non) s = .ok (.d (.tup l)) s := by
  show Res.ok (.d (.tup (cutD (a :: l) (some 1) none))) s = _
  rw [cut1]
@[simp] theorem e_slF (m f l h ρ s) : slF m f l h ρ s = (f ρ s).bind fun x s1 => (l ρ s1).bind fun a s2 => if (prt a).isSome = true then (h ρ s2).bind fun b s3 => slX m x a b s3 else .stuck := nr rfl
@[simp] theorem e_intF (f ρ s) : intF f ρ s = (f ρ s).bind fun x s1 => match x with | .d (.int i) => okI i s1 | _ => .stuck := nr rfl
@[simp] theorem prt_i (i) : prt (.d (.int i)) = some (some i) := nr rfl
@[simp] theorem prt_n : prt (.d .non) = some none := nr rfl
@[simp] theorem e_zip (g ρ s) : zipSF g ρ s = (g ρ s).bind fun xs s1 => match xs with
  | [x, y] => match seqD x, seqD y with
    | some as, some bs => if as.length = bs.length then .ok (.d (.lst (zipD as bs))) s1 else .stuck
    | _, _ => .stuck
  | _ => .stuck := nr rfl
@[simp] theorem seqD_t (xs) : seqD (.d (.tup xs)) = some xs := nr rfl
@[simp] theorem seqD_l (xs) : seqD (.d (.lst xs)) = some xs := nr rfl
@[simp] theorem e_pair (i j x y ρ) : tupG 2 (consG (nameG i) (consG (nameG j) nilG)) (.d (.tup [x, y])) ρ = some ((ρ.set i (some (.d x))).set j (some (.d y))) := nr rfl
theorem forF_nil (asg b ρ s) : forF asg b [] ρ s = .nx ρ s := rfl
theorem forF_cons {asg : Xv → Env' → Option Env'} {b : FS} {x : D} {xs : List D} {ρ r r2 : Env'} {s s2 : Sto} (h : asg (.d x) ρ = some r) (h2 : b r s = .nx r2 s2) : forF asg b (x :: xs) ρ s = forF asg b xs r2 s2 := by
  conv => lhs; unfold forF
  rw [h]
  dsimp only
  rw [h2]
theorem value_loop : ∀ (fs xs : List Int) (acc : Int) (o : Xv) (p : Xv) (y z : Option Xv), fs.length = xs.length → (∀ f ∈ fs, Bd f) → (∀ x ∈ xs, Bd x) →
    ∃ y' z', forF (tupG 2 (consG (nameG 3) (consG (nameG 4) nilG))) B0_value_at (zipD (nsD fs) (nsD xs)) [some o, some p, some (.d (.int acc)), y, z] [] = .nx [some o, some p, some (.d (.int (dot acc fs xs))), y', z'] []
  | [], [], acc, o, p, y, z, _, _, _ => ⟨y, z, rfl⟩
  | [], _ :: _, _, _, _, _, _, h, _, _ => by cases h
  | _ :: _, [], _, _, _, _, _, h, _, _ => by cases h
  | f :: fs, x :: xs, acc, o, p, y, z, h, hf, hx => by
    obtain ⟨y', z', e⟩ := value_loop fs xs (acc + f * x) o p (some (.d (.int f))) (some (.d (.int x))) (by simpa using h) (fun a q => hf a (List.mem_cons_of_mem _ q)) (fun a q => hx a (List.mem_cons_of_mem _ q))
    refine ⟨y', z', ?_⟩
    show forF _ _ (.tup [.int f, .int x] :: zipD (nsD fs) (nsD xs)) _ _ = _
    rw [forF_cons (r := [some o, some p, some (.d (.int acc)), some (.d (.int f)), some (.d (.int x))]) (r2 := [some o, some p, some (.d (.int (acc + f * x))), some (.d (.int f)), some (.d (.int x))]) (s2 := []) rfl]
    · exact e
    · unfold B0_value_at
      simp
      rw [e_mul2 _ _ _ _ (hf f (List.mem_cons_self ..)) (hx x (List.mem_cons_self ..))]
      simp
theorem value_at_v (f0 : Int) {fs xs : List Int} (hl : fs.length = xs.length) (hf : ∀ f ∈ fs, Bd f) (hx : ∀ x ∈ xs, Bd x) : F_value_at [.d (.tup (nsD (f0 :: fs))), .d (.lst (nsD xs))] [] = .ok (.d (.int (dot f0 fs xs))) [] := by
  obtain ⟨y', z', e⟩ := value_loop fs xs f0 (.d (.tup (nsD (f0 :: fs)))) (.d (.lst (nsD xs))) none none hl hf hx
  unfold F_value_at S_value_at
  rw [e_body]
  simp [hl]
  simp at e
  rw [e]
  simp
/-! ### sums and products of forms -/
def fsum (a b : List Int) : List Int := List.zipWith (· + ·) a b
def ftim (c : Int) (g : List Int) : List Int := g.map (c * ·)
@[simp] theorem tuple_l (xs s) : tupleX [.d (.lst xs)] s = .ok (.d (.tup xs)) s := nr rfl
@[simp] theorem list_t (xs s) : listX false [.d (.tup xs)] s = .ok (.d (.lst xs)) s := nr rfl
@[simp] theorem list_l (xs s) : listX false [.d (.lst xs)] s = .ok (.d (.lst xs)) s := nr rfl
@[simp] theorem e_finL (ys s) : finL false [] (some (ys, s)) = .ok (.d (.lst ys)) s := nr rfl
@[simp] theorem e_yes (ρ s) : yesF ρ s = .ok (.d (.bl true)) s := nr rfl
theorem sum_c : ∀ (a b : List Int) (p q : Xv), a.length = b.length → compN (tupG 2 (consG (nameG 2) (consG (nameG 3) nilG))) yesF E0_form_sum [some p, some q, none, none] (zipD (nsD a) (nsD b)) [] = some (nsD (fsum a b), [])
  | [], [], _, _, _ => rfl
  | [], _ :: _, _, _, h => by cases h
  | _ :: _, [], _, _, h => by cases h
  | x :: a, y :: b, p, q, h => by
    have e := sum_c a b p q (by simpa using h)
    show compN _ _ _ _ (.tup [.int x, .int y] :: zipD (nsD a) (nsD b)) _ = _
    unfold compN
    simp
    unfold E0_form_sum at e ⊢
    simp [e]
    rfl
theorem form_sum_v {a b : List Int} (h : a.length = b.length) (hl : a.length ≤ 1000) : F_form_sum [.d (.tup (nsD a)), .d (.tup (nsD b))] [] = .ok (.d (.tup (nsD (fsum a b)))) [] := by
  have e := sum_c a b (.d (.tup (nsD a))) (.d (.tup (nsD b))) h
  have hz : (zipD (nsD a) (nsD b)).length ≤ 1000000 := by rw [zipD_len (by simpa using h), List.length_map]; omega
  unfold F_form_sum S_form_sum
  rw [e_body]
  simp [h, hz, e]
theorem form_times_v {c : Int} {g : List Int} (hc : Bd c) (hg : ∀ x ∈ g, Bd x) (hl : g.length ≤ 1000) : F_form_times [.d (.int c), .d (.tup (nsD g))] [] = .ok (.d (.tup (nsD (ftim c g)))) [] := by
  have e := compN_map (asg := nameG 2) (f := E0_form_times) (ρ := [some (.d (.int c)), some (.d (.tup (nsD g))), none]) (s := []) (fun d => match d with | .int i => .int (c * i) | x => x) (nsD g) (fun x hx => by
    obtain ⟨n, hn, rfl⟩ := List.mem_map.mp hx
    refine ⟨_, rfl, ?_⟩
    unfold E0_form_times
    simp
    rw [e_mul2 _ _ _ _ hc (hg n hn)])
  have e2 : (nsD g).map (fun d => match d with | .int i => D.int (c * i) | x => x) = nsD (ftim c g) := by
    unfold ftim nsD
    rw [List.map_map, List.map_map]
    rfl
  rw [e2] at e
  unfold F_form_times S_form_times
  rw [e_body]
  unfold iterF
  simp [show g.length ≤ 1000000 by omega, e]
end FL

set_option Elab.async false
set_option linter.all false
set_option maxRecDepth 100000
set_option maxHeartbeats 1000000
namespace FL
open PySem PySem.Spec PyProof.Rows L2
@[simp] theorem e_tupF (g ρ s) : tupF g ρ s = (g ρ s).bind fun xs s1 => match pureAll xs with
  | some ds => if ds.length ≤ 1000000 then .ok (.d (.tup ds)) s1 else .stuck
  | none => .stuck := nr rfl
@[simp] theorem e_lstF (m g ρ s) : lstF m g ρ s = (g ρ s).bind fun xs s1 => match pureAll xs with
  | some ds => if ds.length ≤ 1000000 then mkL m ds s1 else .stuck
  | none => .stuck := nr rfl
@[simp] theorem pure_n : pureAll [] = some [] := nr rfl
@[simp] theorem pure_c (x xs) : pureAll (.d x :: xs) = (pureAll xs).map (x :: ·) := by
  show (match pureAll xs with | some r => some (x :: r) | none => none) = _
  cases pureAll xs <;> rfl
@[simp] theorem mkL_f (xs s) : mkL false xs s = .ok (.d (.lst xs)) s := nr rfl
@[simp] theorem mkL_t (xs s) : mkL true xs s = .ok (.ref s.length) (s ++ [.lst xs]) := nr rfl
theorem mul_tup (m) (a : List D) (k : Int) (s) (h : -1000 ≤ k ∧ k ≤ 1000 ∧ a.length ≤ 1000) : mulX m (.d (.tup a)) (.d (.int k)) s = .ok (.d (.tup (List.replicate k.toNat a).flatten)) s := if_pos h
theorem add_tup (m) (a b : List D) (s) (h : a.length + b.length ≤ 100000) : addX m (.d (.tup a)) (.d (.tup b)) s = .ok (.d (.tup (a ++ b))) s := if_pos (by rw [sizeLine_eq]; omega)
theorem add_lst (m) (a b : List D) (s) (h : a.length + b.length ≤ 100000) : addX m (.d (.lst a)) (.d (.lst b)) s = mkL m (a ++ b) s := if_pos (by rw [sizeLine_eq]; omega)
theorem rep_flat (n : Nat) (c : D) : (List.replicate n [c]).flatten = List.replicate n c := by
  induction n with
  | zero => rfl
  | succ n ih => rw [List.replicate_succ, List.flatten_cons, ih, List.replicate_succ]; rfl
theorem plain_v (n : Nat) (c : Int) (h : n ≤ 3) : F_plain [.d (.int (n : Int)), .d (.int c)] [] = .ok (.d (.tup (nsD (c :: List.replicate n 0)))) [] := by
  unfold F_plain S_plain
  rw [e_body]
  simp
  rw [mul_tup _ _ _ _ ⟨by omega, by omega, by decide⟩]
  simp
  rw [add_tup _ _ _ _ (by simp; omega)]
  simp
abbrev fmD (gs : List (List Int)) : List D := gs.map fun g => .tup (nsD g)
def insF : List Int → List Int → List (List Int) → List Int
  | acc, c :: cs, g :: gs => insF (fsum acc (ftim c g)) cs gs
  | acc, _, _ => acc
theorem fsum_len {a b : List Int} (h : a.length = b.length) : (fsum a b).length = a.length := by
  unfold fsum
  rw [List.length_zipWith, h, Nat.min_self]
theorem ftim_len {c : Int} {g : List Int} : (ftim c g).length = g.length := by unfold ftim; rw [List.length_map]
theorem ins_loop (n : Nat) (hn : n ≤ 3) : ∀ (fs : List Int) (gs : List (List Int)) (acc : List Int) (o p q : Xv) (y z : Option Xv), fs.length = gs.length → acc.length = n + 1 → (∀ f ∈ fs, Bd f) → (∀ g ∈ gs, g.length = n + 1 ∧ ∀ x ∈ g, Bd x) →
    ∃ y' z', forF (tupG 2 (consG (nameG 4) (consG (nameG 5) nilG))) B0_form_inserted (zipD (nsD fs) (fmD gs)) [some o, some p, some q, some (.d (.tup (nsD acc))), y, z] [] = .nx [some o, some p, some q, some (.d (.tup (nsD (insF acc fs gs)))), y', z'] []
  | [], [], acc, o, p, q, y, z, _, _, _, _ => ⟨y, z, rfl⟩
  | [], _ :: _, _, _, _, _, _, _, h, _, _, _ => by cases h
  | _ :: _, [], _, _, _, _, _, _, h, _, _, _ => by cases h
  | f :: fs, g :: gs, acc, o, p, q, y, z, h, ha, hf, hg => by
    have hg0 := hg g (List.mem_cons_self ..)
    have l2 : (fsum acc (ftim f g)).length = n + 1 := by rw [fsum_len (by rw [ftim_len, ha, hg0.1]), ha]
    obtain ⟨y', z', e⟩ := ins_loop n hn fs gs (fsum acc (ftim f g)) o p q (some (.d (.int f))) (some (.d (.tup (nsD g)))) (by simpa using h) l2 (fun a k => hf a (List.mem_cons_of_mem _ k)) (fun a k => hg a (List.mem_cons_of_mem _ k))
    refine ⟨y', z', ?_⟩
    show forF _ _ (.tup [.int f, .tup (nsD g)] :: zipD (nsD fs) (fmD gs)) _ _ = _
    rw [forF_cons (r := [some o, some p, some q, some (.d (.tup (nsD acc))), some (.d (.int f)), some (.d (.tup (nsD g)))]) (r2 := [some o, some p, some q, some (.d (.tup (nsD (fsum acc (ftim f g))))), some (.d (.int f)), some (.d (.tup (nsD g)))]) (s2 := []) rfl]
    · exact e
    · have q1 : runC false F_form_times [.d (.int f), .d (.tup (nsD g))] [] = .ok (.d (.tup (nsD (ftim f g)))) [] := run0_d (form_times_v (hf f (List.mem_cons_self ..)) hg0.2 (by omega)) rfl
      have q2 : runC false F_form_sum [.d (.tup (nsD acc)), .d (.tup (nsD (ftim f g)))] [] = .ok (.d (.tup (nsD (fsum acc (ftim f g))))) [] := run0_d (form_sum_v (by rw [ftim_len, ha, hg0.1]) (by omega)) rfl
      unfold B0_form_inserted
      simp [q1, q2]
theorem form_inserted_v (n : Nat) (hn : n ≤ 3) (f0 : Int) {fs : List Int} {gs : List (List Int)} (h : fs.length = gs.length) (hf : ∀ f ∈ fs, Bd f) (hg : ∀ g ∈ gs, g.length = n + 1 ∧ ∀ x ∈ g, Bd x) :
    F_form_inserted [.d (.tup (nsD (f0 :: fs))), .d (.int (n : Int)), .d (.lst (fmD gs))] [] = .ok (.d (.tup (nsD (insF (f0 :: List.replicate n 0) fs gs)))) [] := by
  obtain ⟨y, z, e⟩ := ins_loop n hn fs gs (f0 :: List.replicate n 0) (.d (.tup (nsD (f0 :: fs)))) (.d (.int (n : Int))) (.d (.lst (fmD gs))) none none h (by simp) hf hg
  have q1 : runC false F_plain [.d (.int (n : Int)), .d (.int f0)] [] = .ok (.d (.tup (nsD (f0 :: List.replicate n 0)))) [] := run0_d (plain_v n f0 hn) rfl
  unfold F_form_inserted S_form_inserted
  rw [e_body]
  simp at q1 e
  simp [q1, h, e]
/-! ### value, inserted -/
theorem fm_ns {n : Nat} {xs : List Int} (h : xs.length = n + 1) (hn : n ≤ 3) (h0 : ∀ x ∈ xs, 0 ≤ x) : Fm n (nsD xs) := ⟨ok_ns (by omega), by rw [List.length_map, h], all_ns h0⟩
theorem value_v {n : Nat} (hn : n ≤ 3) {f0 : Int} {fs xs : List Int} (hl : fs.length = n) (hx : xs.length = n) (p0 : 0 ≤ f0) (pf : ∀ f ∈ fs, 0 ≤ f) (px : ∀ f ∈ xs, 0 ≤ f) (bf : ∀ f ∈ fs, Bd f) (bx : ∀ x ∈ xs, Bd x) :
    F_value [.d (.tup (nsD (f0 :: fs))), .d (.lst (nsD xs))] [] = .ok (.d (.int (dot f0 fs xs))) [] := by
  have q1 : runC false F_check_any_form [.d (.tup (nsD (f0 :: fs)))] [] = .ok (.d .non) [] := run0_d (check_any_v (n := n) (fm_ns (by rw [List.length_cons, hl]) hn (fun x k => by
    rcases List.mem_cons.mp k with rfl | k
    · exact p0
    · exact pf x k)) hn) rfl
  have q2 : runC false F_check_point [.d (.int (n : Int)), .d (.lst (nsD xs))] [] = .ok (.d .non) [] := run0_d (check_point_v _ (ok_ns (by omega)) (by rw [List.length_map, hx]) (all_ns px)) rfl
  have q3 : runC false F_value_at [.d (.tup (nsD (f0 :: fs))), .d (.lst (nsD xs))] [] = .ok (.d (.int (dot f0 fs xs))) [] := run0_d (value_at_v f0 (by rw [hl, hx]) bf bx) rfl
  have e1 : ((n : Int) + 1 - 1) = n := by omega
  unfold F_value S_value
  rw [e_body]
  simp at q1 q3
  simp [q1, q2, q3, hl, e1]
theorem cf_comp (n : Nat) (hn : n ≤ 3) (o p q : Xv) (hp : o = .d (.int (n : Int))) : ∀ (gs : List (List Int)), (∀ g ∈ gs, g.length = n + 1 ∧ ∀ x ∈ g, 0 ≤ x) → compN (nameG 3) T0_check_forms E1_check_forms [some o, some p, some q, none] (fmD gs) [] = some ([], [])
  | [], _ => rfl
  | g :: gs, h => by
    have e := cf_comp n hn o p q hp gs (fun a k => h a (List.mem_cons_of_mem _ k))
    have hg := h g (List.mem_cons_self ..)
    have F := fm_ns (n := n) hg.1 hn hg.2
    have q1 : runC false F_is_form_for [.d (.int (n : Int)), .d (.tup (nsD g))] [] = .ok (.d (.bl true)) [] := run0_d (by rw [form_for_v _ F.ok, F.cnt, decide_eq_true (by rw [F.len]; push_cast; rfl)]; rfl) rfl
    subst hp
    show compN _ _ _ _ (.tup (nsD g) :: fmD gs) _ = _
    unfold compN
    unfold T0_check_forms at e ⊢
    simp [q1]
    exact e
theorem eq_nn (n s) : eqX n (.d (.lst [])) (.d (.lst [])) s = .ok (.d (.bl !n)) s := by cases n <;> rfl
theorem check_forms_v (n : Nat) (hn : n ≤ 3) {gs : List (List Int)} (hg : ∀ g ∈ gs, g.length = n + 1 ∧ ∀ x ∈ g, 0 ≤ x) (hl : gs.length ≤ 3) : F_check_forms [.d (.int (n : Int)), .d (.lst (fmD gs)), .d (.int (gs.length : Int))] [] = .ok (.d .non) [] := by
  have e := cf_comp n hn (.d (.int (n : Int))) (.d (.lst (fmD gs))) (.d (.int (gs.length : Int))) rfl gs hg
  unfold F_check_forms S_check_forms
  rw [e_body]
  unfold iterF
  simp [show gs.length ≤ 1000000 by omega]
  simp [e, eq_nn]
theorem inserted_v {m n : Nat} (hm : m ≤ 3) (hn : n ≤ 3) {f0 : Int} {fs : List Int} {gs : List (List Int)} (hl : fs.length = m) (hk : gs.length = m) (p0 : 0 ≤ f0) (pf : ∀ f ∈ fs, 0 ≤ f) (bf : ∀ f ∈ fs, Bd f) (hg : ∀ g ∈ gs, g.length = n + 1 ∧ ∀ x ∈ g, 0 ≤ x ∧ Bd x) :
    F_inserted [.d (.tup (nsD (f0 :: fs))), .d (.int (n : Int)), .d (.lst (fmD gs))] [] = .ok (.d (.tup (nsD (insF (f0 :: List.replicate n 0) fs gs)))) [] := by
  have q1 : runC false F_check_any_form [.d (.tup (nsD (f0 :: fs)))] [] = .ok (.d .non) [] := run0_d (check_any_v (n := m) (fm_ns (by rw [List.length_cons, hl]) hm (fun x k => by
    rcases List.mem_cons.mp k with rfl | k
    · exact p0
    · exact pf x k)) hm) rfl
  have q2 : runC false F_check_many [.d (.int (n : Int))] [] = .ok (.d .non) [] := run0_d (check_many_v _ (by omega)) rfl
  have q3 : runC false F_check_forms [.d (.int (n : Int)), .d (.lst (fmD gs)), .d (.int (m : Int))] [] = .ok (.d .non) [] := run0_d (by
    rw [← hk]
    exact check_forms_v n hn (fun g k => ⟨(hg g k).1, fun x j => ((hg g k).2 x j).1⟩) (by omega)) rfl
  have q4 : runC false F_form_inserted [.d (.tup (nsD (f0 :: fs))), .d (.int (n : Int)), .d (.lst (fmD gs))] [] = .ok (.d (.tup (nsD (insF (f0 :: List.replicate n 0) fs gs)))) [] := run0_d (form_inserted_v n hn f0 (by rw [hl, hk]) bf (fun g k => ⟨(hg g k).1, fun x j => ((hg g k).2 x j).2⟩)) rfl
  have e1 : ((m : Int) + 1 - 1) = m := by omega
  unfold F_inserted S_inserted
  rw [e_body]
  simp at q1 q3 q4
  simp [q1, q2, q3, q4, hl, e1]
end FL

set_option Elab.async false
set_option linter.all false
set_option maxRecDepth 100000
set_option maxHeartbeats 1000000
namespace FL
open PySem PySem.Spec PyProof.Rows L2
theorem rngD_succ (lo : Int) (n : Nat) : rngD lo (n + 1) = .int lo :: rngD (lo + 1) n := by
  unfold rngD
  rw [List.range_succ_eq_map, List.map_cons, List.map_map]
  congr 1
  · simp
  · apply List.map_congr_left
    intro a _
    simp
    omega
theorem compN_rng {asg : Xv → Env' → Option Env'} {f : FE} {ρ : Env'} {s : Sto} : ∀ (zs : List D) (lo : Int), (∀ (j : Nat) (v : D), zs[j]? = some v → ∃ r, asg (.d (.int (lo + j))) ρ = some r ∧ f r s = .ok (.d v) s) → compN asg yesF f ρ (rngD lo zs.length) s = some (zs, s)
  | [], lo, _ => rfl
  | z :: zs, lo, h => by
    obtain ⟨r, e1, e2⟩ := h 0 z rfl
    have e5 := compN_rng zs (lo + 1) (fun j v k => by
      have q := h (j + 1) v k
      rw [show lo + ((j + 1 : Nat) : Int) = lo + 1 + j by push_cast; omega] at q
      exact q)
    rw [List.length_cons, rngD_succ]
    unfold compN
    rw [show lo + ((0 : Nat) : Int) = lo by simp] at e1
    rw [e1]
    show (match f r s with
          | .ok (.d y) s2 => match compN asg yesF f ρ (rngD (lo + 1) zs.length) s2 with
            | some (ys, s3) => some (y :: ys, s3)
            | none => none
          | _ => none) = _
    rw [e2]
    dsimp only
    rw [e5]
theorem at_nat {α : Type} {xs : List α} {j : Nat} {v : α} (h : xs[j]? = some v) : atI xs (j : Int) = some v := by
  have hj := (List.getElem?_eq_some_iff.mp h).1
  unfold atI ixN
  rw [if_pos (by omega), if_pos (by omega)]
  exact h
theorem ix_t {xs : List D} {j : Nat} {v : D} {s} (h : xs[j]? = some v) : ixX (.d (.tup xs)) (.d (.int (j : Int))) s = .ok (.d v) s := by
  show (match atI xs (j : Int) with | some v => Res.ok (.d v) s | none => .stuck) = _
  rw [at_nat h]
theorem ix_l {xs : List D} {j : Nat} {v : D} {s} (h : xs[j]? = some v) : ixX (.d (.lst xs)) (.d (.int (j : Int))) s = .ok (.d v) s := by
  show (match atI xs (j : Int) with | some v => Res.ok (.d v) s | none => .stuck) = _
  rw [at_nat h]
theorem allInts_ns : ∀ (xs : List Int), allInts (nsD xs) = some xs
  | [] => rfl
  | x :: xs => by
    show (match allInts (nsD xs) with | some r => some (x :: r) | none => none) = _
    rw [allInts_ns xs]
@[simp] theorem sum_ns (xs : List Int) (s) : sumX [.d (.lst (nsD xs))] s = .ok (.d (.int xs.sum)) s := by
  show (match allInts (nsD xs) with | some ns => okI ns.sum s | none => .stuck) = _
  rw [allInts_ns]
  rfl
theorem dot_sum : ∀ (fs xs : List Int) (a : Int), dot a fs xs = a + (List.zipWith (· * ·) fs xs).sum
  | [], _, a => by simp [dot]
  | _ :: _, [], a => by simp [dot]
  | f :: fs, x :: xs, a => by
    rw [dot, dot_sum fs xs, List.zipWith_cons_cons, List.sum_cons]
    omega
theorem law_value_v (f0 : Int) {fs xs : List Int} (hl : fs.length = xs.length) (h3 : xs.length ≤ 1000) (hf : ∀ f ∈ fs, Bd f) (hx : ∀ x ∈ xs, Bd x) : F__law_value [.d (.tup (nsD (f0 :: fs))), .d (.lst (nsD xs))] [] = .ok (.d (.int (dot f0 fs xs))) [] := by
  have e := compN_rng (asg := nameG 2) (f := E0__law_value) (ρ := [some (.d (.tup (nsD (f0 :: fs)))), some (.d (.lst (nsD xs))), none]) (s := []) (nsD (List.zipWith (· * ·) fs xs)) 0 (fun j v hv => by
    rw [List.getElem?_map] at hv
    obtain ⟨w, hw, rfl⟩ := Option.map_eq_some_iff.mp hv
    rw [List.getElem?_zipWith] at hw
    cases h1 : fs[j]? with
    | none => rw [h1] at hw; cases hw
    | some f =>
      cases h2 : xs[j]? with
      | none => rw [h1, h2] at hw; cases hw
      | some x =>
        rw [h1, h2] at hw
        cases hw
        refine ⟨_, rfl, ?_⟩
        unfold E0__law_value
        have i1 : ixX (.d (.tup (nsD (f0 :: fs)))) (.d (.int ((j : Int) + 1))) [] = .ok (.d (.int f)) [] := ix_t (j := j + 1) (by
          rw [List.getElem?_map, List.getElem?_cons_succ, h1]
          rfl)
        have i2 : ixX (.d (.lst (nsD xs))) (.d (.int (j : Int))) [] = .ok (.d (.int x)) [] := ix_l (by
          rw [List.getElem?_map, h2]
          rfl)
        simp at i1 i2
        simp [i1, i2]
        exact e_mul2 _ _ _ _ (hf f (List.mem_of_getElem? h1)) (hx x (List.mem_of_getElem? h2)))
  rw [List.length_map, List.length_zipWith, hl, Nat.min_self] at e
  unfold F__law_value S__law_value
  rw [e_body]
  simp
  rw [e_rng _ _ (by omega) (by omega)]
  simp
  rw [if_pos (by rw [rng_len]; omega)]
  simp at e
  rw [e]
  simp
  have k := sum_ns (List.zipWith (· * ·) fs xs) []
  simp at k
  rw [k]
  simp
  rw [dot_sum]
/-! ### drawing -/
theorem GI.le {n k : Nat} {o : O} (h : GI n o) (hk : k ≤ n) : GI k o := by
  obtain ⟨a, b, c, e, h1, h2, h3, h4, h5⟩ := h
  exact ⟨a, b, c, e, h1, h2, h3, h4, by omega⟩
theorem runG {m : Bool} {F : Fn} {xs : List Xv} {rest : Sto} {v : D} {n n' : Nat} {o o' : O} (g : GI n o) (g' : GI n' o') (h : F (.ref 0 :: zero xs) [o] = .ok (.d v) [o']) (h0 : refsOf xs = []) : runC m F (.ref 0 :: xs) (o :: rest) = .ok (.d v) (o' :: rest) := by
  obtain ⟨a, b, c, rfl, _⟩ := g
  obtain ⟨a', b', c', rfl, _⟩ := g'
  exact run1_d h h0
theorem rand_r {n : Nat} {o : O} {bd : Int} {t : Nat} (hg : GI (n + 1) o) (hb : BdOk bd t) : ∃ r o', (∀ m rest, runC m F__law_random [.ref 0, .d (.int bd)] (o :: rest) = .ok (.d (.int r)) (o' :: rest)) ∧ 0 ≤ r ∧ r < bd ∧ GI n o' := by
  obtain ⟨r, o', e, h1, h2, h3⟩ := random_ok hg hb
  exact ⟨r, o', fun m rest => runG hg h3 e rfl, h1, h2, h3⟩
abbrev tp30 : Int := 1000000000000000000000000000000
theorem bd30' : BdOk tp30 4 := ⟨by decide, by decide +kernel, by decide +kernel, by decide⟩
theorem pow30 (s) : powX (.d (.int 10)) (.d (.int 30)) s = .ok (.d (.int tp30)) s := by
  show (if cPow 10 30 = true then Res.ok (.d (.int (10 ^ (30 : Int).toNat))) s else .stuck) = _
  rw [if_pos (by decide +kernel), show ((10 : Int) ^ (30 : Int).toNat) = tp30 by decide +kernel]
theorem number_ok {n : Nat} {o : O} (hg : GI (n + 2) o) : ∃ r o', F__law_number [.ref 0] [o] = .ok (.d (.int r)) [o'] ∧ 0 ≤ r ∧ r < tp30 ∧ GI n o' := by
  obtain ⟨r, o1, e1, h1, h2, g1⟩ := rand_r hg bd5
  by_cases h0 : r = 0
  · obtain ⟨r2, o2, e2, h3, h4, g2⟩ := rand_r g1 bd30'
    refine ⟨r2, o2, ?_, h3, h4, g2⟩
    unfold F__law_number S__law_number
    rw [e_body]
    simp [e1, h0, pow30]
    rw [e2]
    simp
  · obtain ⟨r2, o2, e2, h3, h4, g2⟩ := rand_r g1 bd5
    refine ⟨r2, o2, ?_, h3, by unfold tp30; omega, g2⟩
    unfold F__law_number S__law_number
    rw [e_body]
    simp [e1, h0]
    rw [e2]
    simp
def IsN (b : Int) (y : D) : Prop := ∃ r, y = .int r ∧ 0 ≤ r ∧ r < b
theorem isN_ns {b : Int} : ∀ {ys : List D}, (∀ y ∈ ys, IsN b y) → ∃ zs, ys = nsD zs ∧ ∀ z ∈ zs, 0 ≤ z ∧ z < b
  | [], _ => ⟨[], rfl, (fun z hz => nomatch hz)⟩
  | y :: ys, h => by
    obtain ⟨zs, rfl, h2⟩ := isN_ns (ys := ys) (fun y hy => h y (List.mem_cons_of_mem _ hy))
    obtain ⟨r, rfl, h3⟩ := h y (List.mem_cons_self ..)
    refine ⟨r :: zs, rfl, fun z hz => ?_⟩
    rcases List.mem_cons.mp hz with rfl | hz
    · exact h3
    · exact h2 z hz
theorem form_ok {n k : Nat} {o : O} (hk : k ≤ 3) (hg : GI (n + 8) o) : ∃ zs o', F__law_form [.ref 0, .d (.int (k : Int))] [o] = .ok (.d (.tup (nsD zs))) [o'] ∧ zs.length = k + 1 ∧ (∀ z ∈ zs, 0 ≤ z ∧ z < tp30) ∧ GI n o' := by
  obtain ⟨ys, s', e1, e2, e3, o', e4, e5⟩ := compN_st (asg := nameG 2) (f := E0__law_form) (ρ := [some (.ref 0), some (.d (.int (k : Int))), none]) (IsN tp30) (fun i s => ∃ o, s = [o] ∧ GI (n + 2 * (4 - i)) o) (rngD 0 (k + 1)) 0 (s := [o]) ⟨o, rfl, hg⟩ (fun j x s hj hJ => by
    obtain ⟨o, rfl, g⟩ := hJ
    have hjt := (rng_at hj).1
    obtain ⟨r, o', q, h1, h2, g'⟩ := number_ok (n := n + 2 * (4 - (0 + j + 1))) (o := o) (by
      rw [show n + 2 * (4 - (0 + j + 1)) + 2 = n + 2 * (4 - (0 + j)) by omega]
      exact g)
    refine ⟨_, .int r, [o'], rfl, ?_, ⟨r, rfl, h1, h2⟩, o', rfl, g'⟩
    unfold E0__law_form
    have q2 : runC false F__law_number [.ref 0] [o] = .ok (.d (.int r)) [o'] := runG (xs := []) g g' q rfl
    simp [q2])
  obtain ⟨zs, rfl, h5⟩ := isN_ns e3
  refine ⟨zs, o', ?_, by rw [List.length_map, rng_len] at e2; exact e2, h5, e5.le (by omega)⟩
  subst e4
  unfold F__law_form S__law_form
  rw [e_body]
  simp
  rw [e_rng _ _ (by omega) (by omega)]
  simp
  rw [if_pos (by rw [rng_len]; omega), e1]
  simp
end FL

set_option Elab.async false
set_option linter.all false
set_option maxRecDepth 100000
set_option maxHeartbeats 1000000
namespace FL
def sumP (p : Nat) (fs : List Int) (gs : List (List Int)) : Int := (List.zipWith (fun f g => f * g.getD p 0) fs gs).sum
theorem fsum_at {n : Nat} {a g : List Int} {f : Int} {p : Nat} (ha : a.length = n + 1) (hg : g.length = n + 1) (hp : p < n + 1) : (fsum a (ftim f g)).getD p 0 = a.getD p 0 + f * g.getD p 0 := by
  unfold fsum ftim
  simp only [List.getD_eq_getElem?_getD, List.getElem?_zipWith, List.getElem?_map]
  rw [List.getElem?_eq_getElem (show p < a.length by omega), List.getElem?_eq_getElem (show p < g.length by omega)]
  rfl
theorem insF_at (n : Nat) : ∀ (fs : List Int) (gs : List (List Int)) (acc : List Int), fs.length = gs.length → acc.length = n + 1 → (∀ g ∈ gs, g.length = n + 1) →
    (insF acc fs gs).length = n + 1 ∧ ∀ p, p < n + 1 → (insF acc fs gs).getD p 0 = acc.getD p 0 + sumP p fs gs
  | [], [], acc, _, ha, _ => ⟨ha, fun p hp => by unfold insF sumP; simp⟩
  | [], _ :: _, _, h, _, _ => by cases h
  | _ :: _, [], _, h, _, _ => by cases h
  | f :: fs, g :: gs, acc, h, ha, hg => by
    have hg0 := hg g (List.mem_cons_self ..)
    have l2 : (fsum acc (ftim f g)).length = n + 1 := by rw [fsum_len (by rw [ftim_len, ha, hg0]), ha]
    obtain ⟨h1, h2⟩ := insF_at n fs gs (fsum acc (ftim f g)) (by simpa using h) l2 (fun a k => hg a (List.mem_cons_of_mem _ k))
    refine ⟨h1, fun p hp => ?_⟩
    show (insF (fsum acc (ftim f g)) fs gs).getD p 0 = _
    rw [h2 p hp, fsum_at ha hg0 hp]
    unfold sumP
    rw [List.zipWith_cons_cons, List.sum_cons]
    omega
def dueL (n : Nat) (f0 : Int) (fs : List Int) (gs : List (List Int)) : List Int := (f0 + sumP 0 fs gs) :: (List.range n).map fun p => sumP (p + 1) fs gs
theorem due_eq (n : Nat) (f0 : Int) {fs : List Int} {gs : List (List Int)} (h : fs.length = gs.length) (hg : ∀ g ∈ gs, g.length = n + 1) : insF (f0 :: List.replicate n 0) fs gs = dueL n f0 fs gs := by
  obtain ⟨h1, h2⟩ := insF_at n fs gs (f0 :: List.replicate n 0) h (by simp) hg
  apply List.ext_getElem
  · rw [h1]
    simp [dueL]
  · intro p hp hq
    have k := h2 p (by omega)
    rw [List.getD_eq_getElem?_getD, List.getElem?_eq_getElem hp] at k
    rw [show (insF (f0 :: List.replicate n 0) fs gs)[p] = _ from k]
    cases p with
    | zero => simp [dueL]
    | succ p => simp [dueL, List.getElem?_replicate]; split <;> simp
/-! ### the value -/
def lin (g xs : List Int) : Int := dot (g.getD 0 0) g.tail xs
theorem dot_add : ∀ (a b fs gs xs), fs.length = xs.length → gs.length = xs.length → dot (a + b) (List.zipWith (· + ·) fs gs) xs = dot a fs xs + dot b gs xs
  | a, b, [], [], [], _, _ => rfl
  | a, b, f :: fs, g :: gs, x :: xs, h1, h2 => by
    rw [List.zipWith_cons_cons, dot, dot, dot, ← dot_add (a + f * x) (b + g * x) fs gs xs (by simpa using h1) (by simpa using h2)]
    congr 1
    rw [Int.add_mul]
    omega
  | _, _, [], _, _ :: _, h, _ => by cases h
  | _, _, _ :: _, _, [], h, _ => by cases h
  | _, _, _, [], _ :: _, _, h => by cases h
  | _, _, _, _ :: _, [], _, h => by cases h
theorem dot_mul (c : Int) : ∀ (a fs xs), dot (c * a) (fs.map (c * ·)) xs = c * dot a fs xs
  | a, [], _ => by simp [dot]
  | a, _ :: _, [] => by simp [dot]
  | a, f :: fs, x :: xs => by
    rw [List.map_cons, dot, dot, ← dot_mul c (a + f * x) fs xs]
    congr 1
    rw [Int.mul_add, Int.mul_assoc]
theorem lin_step {n : Nat} {acc g xs : List Int} {f : Int} (ha : acc.length = n + 1) (hg : g.length = n + 1) (hx : xs.length = n) : lin (fsum acc (ftim f g)) xs = lin acc xs + f * lin g xs := by
  obtain ⟨a, as, rfl⟩ := List.exists_cons_of_length_eq_add_one ha
  obtain ⟨b, bs, rfl⟩ := List.exists_cons_of_length_eq_add_one hg
  have ha' : as.length = n := by simpa using ha
  have hb' : bs.length = n := by simpa using hg
  unfold lin fsum ftim
  show dot (a + f * b) (List.zipWith (· + ·) as (bs.map (f * ·))) xs = dot a as xs + f * dot b bs xs
  rw [dot_add _ _ _ _ _ (by omega) (by rw [List.length_map]; omega), dot_mul]
theorem lin_ins {n : Nat} {xs : List Int} (hx : xs.length = n) : ∀ (fs : List Int) (gs : List (List Int)) (acc : List Int), fs.length = gs.length → acc.length = n + 1 → (∀ g ∈ gs, g.length = n + 1) → lin (insF acc fs gs) xs = dot (lin acc xs) fs (gs.map (lin · xs))
  | [], [], acc, _, _, _ => by simp [insF, dot]
  | [], _ :: _, _, h, _, _ => by cases h
  | _ :: _, [], _, h, _, _ => by cases h
  | f :: fs, g :: gs, acc, h, ha, hg => by
    have hg0 := hg g (List.mem_cons_self ..)
    have l2 : (fsum acc (ftim f g)).length = n + 1 := by rw [fsum_len (by rw [ftim_len, ha, hg0]), ha]
    rw [insF, lin_ins hx fs gs _ (by simpa using h) l2 (fun a k => hg a (List.mem_cons_of_mem _ k)), lin_step ha hg0 hx, List.map_cons, dot]
theorem dot_zero : ∀ (n : Nat) (a : Int) (xs : List Int), dot a (List.replicate n 0) xs = a
  | 0, _, _ => rfl
  | n + 1, _, [] => rfl
  | n + 1, a, x :: xs => by rw [List.replicate_succ, dot, dot_zero n]; simp
/-! ### how large -/
abbrev tp60 : Int := 1000000000000000000000000000000000000000000000000000000000000
theorem mul_bd {f g : Int} (hf : 0 ≤ f ∧ f < tp30) (hg : 0 ≤ g ∧ g < tp30) : 0 ≤ f * g ∧ f * g ≤ tp60 := by
  refine ⟨Int.mul_nonneg hf.1 hg.1, ?_⟩
  have k := Int.mul_le_mul (show f ≤ tp30 by omega) (show g ≤ tp30 by omega) hg.1 (show (0 : Int) ≤ tp30 by decide)
  exact Int.le_trans k (by decide)
theorem dot_bd : ∀ (fs xs : List Int) (a : Int), 0 ≤ a → (∀ f ∈ fs, 0 ≤ f ∧ f < tp30) → (∀ x ∈ xs, 0 ≤ x ∧ x < tp30) → 0 ≤ dot a fs xs ∧ dot a fs xs ≤ a + fs.length * tp60
  | [], _, a, h, _, _ => by simp [dot]; exact h
  | _ :: fs, [], a, h, _, _ => by
    rw [dot]
    · exact ⟨h, by push_cast [List.length_cons]; unfold tp60; omega⟩
    · intros; contradiction
  | f :: fs, x :: xs, a, h, hf, hx => by
    have k := mul_bd (hf f (List.mem_cons_self ..)) (hx x (List.mem_cons_self ..))
    obtain ⟨h1, h2⟩ := dot_bd fs xs (a + f * x) (by omega) (fun a k => hf a (List.mem_cons_of_mem _ k)) (fun a k => hx a (List.mem_cons_of_mem _ k))
    rw [dot]
    refine ⟨h1, ?_⟩
    push_cast [List.length_cons]
    unfold tp60 at *
    omega
theorem ins_bd {n : Nat} : ∀ (fs : List Int) (gs : List (List Int)) (acc : List Int) (A : Int), (∀ x ∈ acc, 0 ≤ x ∧ x ≤ A) → (∀ f ∈ fs, 0 ≤ f ∧ f < tp30) → (∀ g ∈ gs, ∀ x ∈ g, 0 ≤ x ∧ x < tp30) → ∀ x ∈ insF acc fs gs, 0 ≤ x ∧ x ≤ A + fs.length * tp60
  | [], _, acc, A, h, _, _, x, hx => by simp [insF] at hx; simpa using h x hx
  | _ :: fs, [], acc, A, h, _, _, x, hx => by
    simp [insF] at hx
    have := h x hx
    push_cast [List.length_cons]
    unfold tp60
    omega
  | f :: fs, g :: gs, acc, A, h, hf, hg, x, hx => by
    have k := ins_bd (n := n) fs gs (fsum acc (ftim f g)) (A + tp60) (fun y hy => by
      unfold fsum ftim at hy
      obtain ⟨p, hp, rfl⟩ := List.mem_iff_getElem.mp hy
      rw [List.getElem_zipWith, List.getElem_map]
      rw [List.length_zipWith, List.length_map] at hp
      have k1 := h acc[p] (List.getElem_mem _)
      have k2 := mul_bd (hf f (List.mem_cons_self ..)) (hg g (List.mem_cons_self ..) g[p] (List.getElem_mem _))
      omega) (fun a k => hf a (List.mem_cons_of_mem _ k)) (fun a k => hg a (List.mem_cons_of_mem _ k)) x hx
    push_cast [List.length_cons]
    unfold tp60 at *
    omega
end FL

set_option Elab.async false
set_option linter.all false
set_option maxRecDepth 100000
set_option maxHeartbeats 1000000
namespace FL
open PySem PySem.Spec PyProof.Rows L2
/-! ### the same data are equal -/
mutual
theorem eqv_r : ∀ {n : Nat} {d : D}, flatS n d = true → PyData.eqv (toP d) (toP d) = true
  | n, .non, _ => by unfold toP PyData.eqv; rfl
  | n, .bl b, _ => by unfold toP PyData.eqv; exact beq_self_eq_true b
  | n, .int i, _ => by unfold toP PyData.eqv; exact beq_self_eq_true i
  | n, .str x, _ => by unfold toP PyData.eqv; exact beq_self_eq_true x
  | 0, .tup xs, h => by cases h
  | 0, .lst xs, h => by cases h
  | n + 1, .tup xs, h => by
    unfold toP PyData.eqv
    exact eqv_rs (n := n) (List.all_eq_true.mp h)
  | n + 1, .lst xs, h => by
    unfold toP PyData.eqv
    exact eqv_rs (n := n) (List.all_eq_true.mp h)
  | n, .ty _, h => by cases n <;> cases h
  | n, .adr _, h => by cases n <;> cases h
  | n, .cls _, h => by cases n <;> cases h
  | n, .scr _, h => by cases n <;> cases h
  | n, .obj _ _ _, h => by cases n <;> cases h
  | n, .exc _ _ _, h => by cases n <;> cases h
theorem eqv_rs : ∀ {n : Nat} {ds : List D}, (∀ x ∈ ds, flatS n x = true) → PyData.eqvAll (toPs ds) (toPs ds) = true
  | n, [], _ => by unfold toPs PyData.eqvAll; rfl
  | n, d :: ds, h => by
    unfold toPs PyData.eqvAll
    rw [eqv_r (h d (List.mem_cons_self ..)), eqv_rs (n := n) (fun x hx => h x (List.mem_cons_of_mem _ hx))]
    rfl
end
theorem eqX_r (m : Bool) {d : D} (s) (h : flatS 32 d = true) : eqX m (.d d) (.d d) s = .ok (.d (.bl (!m))) s := by
  unfold eqX eqView
  dsimp only
  rw [if_pos (by rw [h]; rfl), eqv_r h]
  cases m <;> rfl
theorem flat_ns {n : Nat} (xs : List Int) : flatS (n + 1) (.tup (nsD xs)) = true := by
  unfold flatS
  rw [List.all_eq_true]
  intro x hx
  obtain ⟨k, _, rfl⟩ := List.mem_map.mp hx
  cases n <;> rfl
theorem flat_fm {n : Nat} (gs : List (List Int)) : flatS (n + 2) (.lst (fmD gs)) = true := by
  unfold flatS
  rw [List.all_eq_true]
  intro x hx
  obtain ⟨k, _, rfl⟩ := List.mem_map.mp hx
  exact flat_ns k
/-! ### the wrappers -/
structure Rg (b : Int) (n : Nat) (f : List Int) : Prop where
  len : f.length = n
  rg : ∀ z ∈ f, 0 ≤ z ∧ z < b
abbrev tp70 : Int := 10000000000000000000000000000000000000000000000000000000000000000000000
theorem Rg.mono {b c : Int} {n : Nat} {f : List Int} (h : Rg b n f) (k : b ≤ c) : Rg c n f := ⟨h.len, fun z hz => by have := h.rg z hz; omega⟩
theorem Rg.ns {b : Int} {n : Nat} {f : List Int} (h : Rg b n f) : ∀ x ∈ f, 0 ≤ x := fun x hx => (h.rg x hx).1
theorem Rg.bd {b : Int} {n : Nat} {f : List Int} (h : Rg b n f) (hb : b ≤ tp70) : ∀ x ∈ f, Bd x := fun x hx => by
  have := h.rg x hx
  unfold tp70 at hb
  unfold Bd
  omega
def insL (n : Nat) (f : List Int) (gs : List (List Int)) : List Int := insF (f.getD 0 0 :: List.replicate n 0) f.tail gs
theorem value_w {n : Nat} (hn : n ≤ 3) {f xs : List Int} (hf : Rg tp70 (n + 1) f) (hx : Rg tp70 n xs) (m s) : runC m F_value [.d (.tup (nsD f)), .d (.lst (nsD xs))] s = .ok (.d (.int (lin f xs))) s := by
  obtain ⟨f0, fs, rfl⟩ := List.exists_cons_of_length_eq_add_one hf.len
  exact run0_d (value_v hn (by simpa using hf.len) hx.len (hf.ns f0 (List.mem_cons_self ..)) (fun a k => hf.ns a (List.mem_cons_of_mem _ k)) hx.ns (fun a k => hf.bd (Int.le_refl _) a (List.mem_cons_of_mem _ k)) (hx.bd (Int.le_refl _))) rfl
theorem law_value_w {n : Nat} (hn : n ≤ 3) {f xs : List Int} (hf : Rg tp70 (n + 1) f) (hx : Rg tp70 n xs) (m s) : runC m F__law_value [.d (.tup (nsD f)), .d (.lst (nsD xs))] s = .ok (.d (.int (lin f xs))) s := by
  obtain ⟨f0, fs, rfl⟩ := List.exists_cons_of_length_eq_add_one hf.len
  exact run0_d (law_value_v f0 (by have := hf.len; rw [List.length_cons] at this; rw [hx.len]; omega) (by rw [hx.len]; omega) (fun a k => hf.bd (Int.le_refl _) a (List.mem_cons_of_mem _ k)) (hx.bd (Int.le_refl _))) rfl
theorem inserted_w {k n : Nat} (hk : k ≤ 3) (hn : n ≤ 3) {f : List Int} {gs : List (List Int)} (hf : Rg tp30 (k + 1) f) (hl : gs.length = k) (hg : ∀ g ∈ gs, Rg tp30 (n + 1) g) (m s) : runC m F_inserted [.d (.tup (nsD f)), .d (.int (n : Int)), .d (.lst (fmD gs))] s = .ok (.d (.tup (nsD (insL n f gs)))) s := by
  obtain ⟨f0, fs, rfl⟩ := List.exists_cons_of_length_eq_add_one hf.len
  exact run0_d (inserted_v hk hn (by simpa using hf.len) hl (hf.ns f0 (List.mem_cons_self ..)) (fun a k => hf.ns a (List.mem_cons_of_mem _ k)) (fun a k => hf.bd (by decide) a (List.mem_cons_of_mem _ k)) (fun g k => ⟨(hg g k).len, fun x j => ⟨(hg g k).ns x j, (hg g k).bd (by decide) x j⟩⟩)) rfl
theorem insL_rg {k n : Nat} (hk : k ≤ 3) {f : List Int} {gs : List (List Int)} (hf : Rg tp30 (k + 1) f) (hl : gs.length = k) (hg : ∀ g ∈ gs, Rg tp30 (n + 1) g) : Rg tp70 (n + 1) (insL n f gs) := by
  obtain ⟨f0, fs, rfl⟩ := List.exists_cons_of_length_eq_add_one hf.len
  have hfl : fs.length = k := by simpa using hf.len
  refine ⟨(insF_at n fs gs (f0 :: List.replicate n 0) (by omega) (by simp) (fun g j => (hg g j).len)).1, fun z hz => ?_⟩
  have q := ins_bd (n := n) fs gs (f0 :: List.replicate n 0) tp30 (fun x hx => by
    have h0 := hf.rg f0 (List.mem_cons_self ..)
    rcases List.mem_cons.mp hx with rfl | hx
    · omega
    · rw [(List.mem_replicate.mp hx).2]
      decide) (fun a j => hf.rg a (List.mem_cons_of_mem _ j)) (fun g j x i => (hg g j).rg x i) z hz
  refine ⟨q.1, ?_⟩
  have q2 := q.2
  rw [hfl] at q2
  have hk' : (k : Int) ≤ 3 := by omega
  unfold tp30 tp60 at q2
  unfold tp70
  omega
theorem lin_w {k n : Nat} {f xs : List Int} {gs : List (List Int)} (hf : f.length = k + 1) (hl : gs.length = k) (hg : ∀ g ∈ gs, g.length = n + 1) (hx : xs.length = n) : lin (insL n f gs) xs = lin f (gs.map (lin · xs)) := by
  obtain ⟨f0, fs, rfl⟩ := List.exists_cons_of_length_eq_add_one hf
  have hfl : fs.length = k := by simpa using hf
  unfold insL
  rw [lin_ins hx _ _ _ (by show fs.length = _; omega) (by simp) hg]
  show dot (dot f0 (List.replicate n 0) xs) fs _ = dot f0 fs _
  rw [dot_zero]
theorem lin_rg {n : Nat} (hn : n ≤ 3) {g xs : List Int} (hg : Rg tp30 (n + 1) g) (hx : Rg tp30 n xs) : 0 ≤ lin g xs ∧ lin g xs < tp70 := by
  obtain ⟨f0, fs, rfl⟩ := List.exists_cons_of_length_eq_add_one hg.len
  have hfl : fs.length = n := by simpa using hg.len
  have q := dot_bd fs xs f0 (hg.ns f0 (List.mem_cons_self ..)) (fun a j => hg.rg a (List.mem_cons_of_mem _ j)) hx.rg
  have h0 := hg.rg f0 (List.mem_cons_self ..)
  refine ⟨q.1, ?_⟩
  show dot f0 fs xs < _
  have q2 := q.2
  rw [hfl] at q2
  have hk' : (n : Int) ≤ 3 := by omega
  unfold tp60 at q2
  unfold tp30 at h0
  unfold tp70
  omega
theorem is_form_w {k n : Nat} (hk : k ≤ 3) {f : List Int} (hf : Rg tp70 (k + 1) f) (m s) : runC m F_is_form [.d (.int (k : Int)), .d (.tup (nsD f))] s = .ok (.d (.bl true)) s := by
  have F := fm_ns (n := k) hf.len hk hf.ns
  exact run0_d (by rw [is_form_v _ (by omega) F.ok, F.cnt, decide_eq_true (by rw [F.len]; push_cast; rfl)]; rfl) rfl
end FL

set_option Elab.async false
set_option linter.all false
set_option maxRecDepth 100000
set_option maxHeartbeats 1000000
namespace FL
open PySem PySem.Spec PyProof.Rows L2
theorem setg_ne {ρ : Env'} {i j : Nat} {x : Option Xv} (h : i ≠ j) : (ρ.set i x)[j]? = ρ[j]? := List.getElem?_set_ne h
theorem setg_self {ρ : Env'} {i : Nat} {x : Option Xv} (h : i < ρ.length) : (ρ.set i x)[i]? = some x := List.getElem?_set_self h
theorem v_at {ρ : Env'} {i : Nat} {x : Xv} {s} (h : ρ[i]? = some (some x)) : varF i ρ s = .ok x s := by
  rw [e_var, h]
theorem at_ns {g : List Int} {p : Nat} (h : p < g.length) : (nsD g)[p]? = some (.int (g.getD p 0)) := by
  rw [List.getElem?_map, List.getD_eq_getElem?_getD, List.getElem?_eq_getElem h]
  rfl
theorem prod_at {f : List Int} {gs : List (List Int)} {k p j : Nat} {v : D} (hf : f.length = k + 1) (hg : gs.length = k) (hv : (nsD (List.zipWith (fun f g => f * g.getD p 0) f.tail gs))[j]? = some v) : ∃ a g, f[j + 1]? = some a ∧ gs[j]? = some g ∧ v = .int (a * g.getD p 0) := by
  obtain ⟨f0, fs, rfl⟩ := List.exists_cons_of_length_eq_add_one hf
  rw [List.getElem?_map] at hv
  obtain ⟨w, hw, rfl⟩ := Option.map_eq_some_iff.mp hv
  rw [List.getElem?_zipWith] at hw
  rw [List.tail_cons] at hw
  rw [List.getElem?_cons_succ]
  cases h1 : fs[j]? with
  | none => rw [h1] at hw; cases hw
  | some a =>
    cases h2 : gs[j]? with
    | none => rw [h1, h2] at hw; cases hw
    | some g =>
      rw [h1, h2] at hw
      cases hw
      exact ⟨a, g, rfl, rfl, rfl⟩
theorem prod_len {f : List Int} {gs : List (List Int)} {k p : Nat} (hf : f.length = k + 1) (hg : gs.length = k) : (nsD (List.zipWith (fun f g => f * g.getD p 0) f.tail gs)).length = k := by
  rw [List.length_map, List.length_zipWith, List.length_tail, hf, hg]
  omega
section
variable {k n : Nat} {f : List Int} {gs : List (List Int)} {ρ : Env'}
theorem E1_v (hf : Rg tp30 (k + 1) f) (hl : gs.length = k) (hg : ∀ g ∈ gs, Rg tp30 (n + 1) g) (h3 : ρ[3]? = some (some (.d (.tup (nsD f))))) (h4 : ρ[4]? = some (some (.d (.lst (fmD gs))))) (h5 : 5 < ρ.length) (s) :
    compN (nameG 5) yesF E1__law_good ρ (rngD 0 k) s = some (nsD (List.zipWith (fun f g => f * g.getD 0 0) f.tail gs), s) := by
  have e := compN_rng (asg := nameG 5) (f := E1__law_good) (ρ := ρ) (s := s) (nsD (List.zipWith (fun f g => f * g.getD 0 0) f.tail gs)) 0 (fun j v hv => by
    obtain ⟨a, g, ha, hb, rfl⟩ := prod_at hf.len hl hv
    have G := hg g (List.mem_of_getElem? hb)
    refine ⟨_, rfl, ?_⟩
    rw [Int.zero_add]
    have i1 : ixX (.d (.tup (nsD f))) (.d (.int ((j : Int) + 1))) s = .ok (.d (.int a)) s := ix_t (j := j + 1) (by rw [List.getElem?_map, ha]; rfl)
    have i2 : ixX (.d (.lst (fmD gs))) (.d (.int (j : Int))) s = .ok (.d (.tup (nsD g))) s := ix_l (by rw [List.getElem?_map, hb]; rfl)
    have i3 : ixX (.d (.tup (nsD g))) (.d (.int 0)) s = .ok (.d (.int (g.getD 0 0))) s := ix_t (j := 0) (at_ns (by rw [G.len]; omega))
    have a3 : varF 3 (ρ.set 5 (some (.d (.int j)))) s = .ok (.d (.tup (nsD f))) s := v_at (by rw [setg_ne (by decide), h3])
    have a4 : varF 4 (ρ.set 5 (some (.d (.int j)))) s = .ok (.d (.lst (fmD gs))) s := v_at (by rw [setg_ne (by decide), h4])
    have a5 : varF 5 (ρ.set 5 (some (.d (.int j)))) s = .ok (.d (.int j)) s := v_at (setg_self h5)
    have b0 : Bd (g.getD 0 0) := G.bd (by decide) _ (by
      rw [List.getD_eq_getElem?_getD, List.getElem?_eq_getElem (show 0 < g.length by rw [G.len]; omega)]
      exact List.getElem_mem _)
    have b1 : Bd a := hf.bd (by decide) a (List.mem_of_getElem? ha)
    unfold E1__law_good
    simp only [e_op2, a3, a4, a5, e_b, e_lit, e_add, i1, i2, i3]
    exact e_mul2 _ _ _ _ b1 b0)
  rw [prod_len hf.len hl] at e
  exact e
theorem E2_v {p : Nat} (hp : p < n) (hf : Rg tp30 (k + 1) f) (hl : gs.length = k) (hg : ∀ g ∈ gs, Rg tp30 (n + 1) g) (h3 : ρ[3]? = some (some (.d (.tup (nsD f))))) (h4 : ρ[4]? = some (some (.d (.lst (fmD gs))))) (h9 : ρ[9]? = some (some (.d (.int (p : Int))))) (h5 : 5 < ρ.length) (s) :
    compN (nameG 5) yesF E2__law_good ρ (rngD 0 k) s = some (nsD (List.zipWith (fun f g => f * g.getD (p + 1) 0) f.tail gs), s) := by
  have e := compN_rng (asg := nameG 5) (f := E2__law_good) (ρ := ρ) (s := s) (nsD (List.zipWith (fun f g => f * g.getD (p + 1) 0) f.tail gs)) 0 (fun j v hv => by
    obtain ⟨a, g, ha, hb, rfl⟩ := prod_at hf.len hl hv
    have G := hg g (List.mem_of_getElem? hb)
    refine ⟨_, rfl, ?_⟩
    rw [Int.zero_add]
    have i1 : ixX (.d (.tup (nsD f))) (.d (.int ((j : Int) + 1))) s = .ok (.d (.int a)) s := ix_t (j := j + 1) (by rw [List.getElem?_map, ha]; rfl)
    have i2 : ixX (.d (.lst (fmD gs))) (.d (.int (j : Int))) s = .ok (.d (.tup (nsD g))) s := ix_l (by rw [List.getElem?_map, hb]; rfl)
    have i3 : ixX (.d (.tup (nsD g))) (.d (.int ((p : Int) + 1))) s = .ok (.d (.int (g.getD (p + 1) 0))) s := ix_t (j := p + 1) (at_ns (by rw [G.len]; omega))
    have a3 : varF 3 (ρ.set 5 (some (.d (.int j)))) s = .ok (.d (.tup (nsD f))) s := v_at (by rw [setg_ne (by decide), h3])
    have a4 : varF 4 (ρ.set 5 (some (.d (.int j)))) s = .ok (.d (.lst (fmD gs))) s := v_at (by rw [setg_ne (by decide), h4])
    have a9 : varF 9 (ρ.set 5 (some (.d (.int j)))) s = .ok (.d (.int p)) s := v_at (by rw [setg_ne (by decide), h9])
    have a5 : varF 5 (ρ.set 5 (some (.d (.int j)))) s = .ok (.d (.int j)) s := v_at (setg_self h5)
    have b0 : Bd (g.getD (p + 1) 0) := G.bd (by decide) _ (by
      rw [List.getD_eq_getElem?_getD, List.getElem?_eq_getElem (show p + 1 < g.length by rw [G.len]; omega)]
      exact List.getElem_mem _)
    have b1 : Bd a := hf.bd (by decide) a (List.mem_of_getElem? ha)
    unfold E2__law_good
    simp only [e_op2, a3, a4, a5, a9, e_b, e_lit, e_add, i1, i2, i3]
    exact e_mul2 _ _ _ _ b1 b0)
  rw [prod_len hf.len hl] at e
  exact e
theorem E3_v (hk : k ≤ 3) (hf : Rg tp30 (k + 1) f) (hl : gs.length = k) (hg : ∀ g ∈ gs, Rg tp30 (n + 1) g) (h1 : ρ[1]? = some (some (.d (.int (k : Int))))) (h3 : ρ[3]? = some (some (.d (.tup (nsD f))))) (h4 : ρ[4]? = some (some (.d (.lst (fmD gs))))) (h9 : 9 < ρ.length) (s) :
    compN (nameG 9) yesF E3__law_good ρ (rngD 0 n) s = some (nsD ((List.range n).map fun p => sumP (p + 1) f.tail gs), s) := by
  have e := compN_rng (asg := nameG 9) (f := E3__law_good) (ρ := ρ) (s := s) (nsD ((List.range n).map fun p => sumP (p + 1) f.tail gs)) 0 (fun j v hv => by
    unfold nsD at hv
    rw [List.map_map, List.getElem?_map] at hv
    obtain ⟨w, hw, rfl⟩ := Option.map_eq_some_iff.mp hv
    have hj : j < n := by
      have := (List.getElem?_eq_some_iff.mp hw).1
      rwa [List.length_range] at this
    rw [List.getElem?_range hj] at hw
    cases hw
    refine ⟨_, rfl, ?_⟩
    rw [Int.zero_add]
    have E := E2_v (ρ := (ρ.set 9 (some (.d (.int j)))).set 5 none) hj hf hl hg (by rw [setg_ne (by decide), setg_ne (by decide), h3]) (by rw [setg_ne (by decide), setg_ne (by decide), h4]) (by rw [setg_ne (by decide), setg_self h9]) (by rw [List.length_set, List.length_set]; omega) s
    have a1 : varF 1 (ρ.set 9 (some (.d (.int j)))) s = .ok (.d (.int k)) s := v_at (by rw [setg_ne (by decide), h1])
    unfold E3__law_good
    simp only [e_callB, e_cons, e_nil, e_lc, e_rng1, a1, e_b, e_bLA, e_bA, e_bL, e_wipe0, e_wipe1]
    rw [e_rng _ _ (by omega) (by omega)]
    simp only [e_b, Int.toNat_natCast]
    rw [if_pos (by rw [rng_len]; omega), E]
    simp only [e_finL, e_bA, e_bL, sum_ns]
    rfl)
  rw [List.length_map, List.length_map, List.length_range] at e
  exact e
end
end FL

set_option Elab.async false
set_option linter.all false
set_option maxRecDepth 100000
set_option maxHeartbeats 1000000
namespace FL
open PySem PySem.Spec PyProof.Rows L2
theorem seq_go {a b : FS} {ρ r : Env'} {s s2 : Sto} {x : Out} (h : a ρ s = .nx r s2) (k : b r s2 = x) : seqS a b ρ s = x := by
  rw [e_seq, h]
  exact k
theorem compN_get {asg : Xv → Env' → Option Env'} {f : FE} {ρ : Env'} {s : Sto} : ∀ (xs zs : List D), xs.length = zs.length → (∀ (j : Nat) (x z : D), xs[j]? = some x → zs[j]? = some z → ∃ r, asg (.d x) ρ = some r ∧ f r s = .ok (.d z) s) → compN asg yesF f ρ xs s = some (zs, s)
  | [], [], _, _ => rfl
  | [], _ :: _, h, _ => by cases h
  | _ :: _, [], h, _ => by cases h
  | x :: xs, z :: zs, hl, h => by
    obtain ⟨r, e1, e2⟩ := h 0 x z rfl rfl
    have e5 := compN_get xs zs (by simpa using hl) (fun j v k hv hk => h (j + 1) v k hv hk)
    unfold compN
    rw [e1]
    show (match f r s with
          | .ok (.d y) s2 => match compN asg yesF f ρ xs s2 with
            | some (ys, s3) => some (y :: ys, s3)
            | none => none
          | _ => none) = _
    rw [e2]
    dsimp only
    rw [e5]
theorem compN_none {asg : Xv → Env' → Option Env'} {t f : FE} {ρ : Env'} {s : Sto} : ∀ (xs : List D), (∀ x ∈ xs, ∃ r, asg (.d x) ρ = some r ∧ t r s = .ok (.d (.bl false)) s) → compN asg t f ρ xs s = some ([], s)
  | [], _ => rfl
  | x :: xs, h => by
    obtain ⟨r, e1, e2⟩ := h x (List.mem_cons_self ..)
    have e5 := compN_none (t := t) (f := f) xs (fun y hy => h y (List.mem_cons_of_mem _ hy))
    unfold compN
    rw [e1]
    dsimp only
    rw [e2]
    exact e5
def IsF (k : Nat) (y : D) : Prop := ∃ g, y = .tup (nsD g) ∧ Rg tp30 k g
theorem isF_fm {k : Nat} : ∀ {ys : List D}, (∀ y ∈ ys, IsF k y) → ∃ gs, ys = fmD gs ∧ ∀ g ∈ gs, Rg tp30 k g
  | [], _ => ⟨[], rfl, (fun z hz => nomatch hz)⟩
  | y :: ys, h => by
    obtain ⟨zs, rfl, h2⟩ := isF_fm (ys := ys) (fun y hy => h y (List.mem_cons_of_mem _ hy))
    obtain ⟨r, rfl, h3⟩ := h y (List.mem_cons_self ..)
    refine ⟨r :: zs, rfl, fun z hz => ?_⟩
    rcases List.mem_cons.mp hz with rfl | hz
    · exact h3
    · exact h2 z hz
theorem form_r {n k : Nat} {o : O} (hk : k ≤ 3) (hg : GI (n + 8) o) : ∃ zs o', (∀ m rest, runC m F__law_form [.ref 0, .d (.int (k : Int))] (o :: rest) = .ok (.d (.tup (nsD zs))) (o' :: rest)) ∧ Rg tp30 (k + 1) zs ∧ GI n o' := by
  obtain ⟨zs, o', e, h1, h2, h3⟩ := form_ok hk hg
  exact ⟨zs, o', fun m rest => runG hg h3 e rfl, ⟨h1, h2⟩, h3⟩
theorem forms_c {n k j : Nat} {o : O} {ρ : Env'} (hk : k ≤ 3) (hj : j ≤ 3) (hg : GI (n + 24) o) (h0 : ρ[0]? = some (some (.ref 0))) (h2 : ρ[2]? = some (some (.d (.int (j : Int))))) : ∃ gs o', compN (nameG 5) yesF E0__law_good ρ (rngD 0 k) [o] = some (fmD gs, [o']) ∧ gs.length = k ∧ (∀ g ∈ gs, Rg tp30 (j + 1) g) ∧ GI n o' := by
  obtain ⟨ys, s', e1, e2, e3, o', e4, e5⟩ := compN_st (asg := nameG 5) (f := E0__law_good) (ρ := ρ) (IsF (j + 1)) (fun i s => ∃ o, s = [o] ∧ GI (n + 8 * (3 - i)) o) (rngD 0 k) 0 (s := [o]) ⟨o, rfl, hg⟩ (fun i x s hi hJ => by
    obtain ⟨o, rfl, g⟩ := hJ
    have hjt := (rng_at hi).1
    obtain ⟨zs, o', q, h1, g'⟩ := form_r (n := n + 8 * (3 - (0 + i + 1))) (o := o) hj (by
      rw [show n + 8 * (3 - (0 + i + 1)) + 8 = n + 8 * (3 - (0 + i)) by omega]
      exact g)
    refine ⟨_, .tup (nsD zs), [o'], rfl, ?_, ⟨zs, rfl, h1⟩, o', rfl, g'⟩
    unfold E0__law_good
    simp [h0, h2, q])
  obtain ⟨gs, rfl, h5⟩ := isF_fm e3
  subst e4
  exact ⟨gs, o', e1, by rw [List.length_map, rng_len] at e2; exact e2, h5, e5.le (by omega)⟩
theorem rands_c {n k : Nat} {o : O} {ρ : Env'} {bd : Int} {t : Nat} {E : FE} (hk : k ≤ 3) (hb : BdOk bd t) (hg : GI (n + 3) o) (hE : ∀ x s, E (ρ.set 5 x) s = runC false F__law_random [.ref 0, .d (.int bd)] s) :
    ∃ xs o', compN (nameG 5) yesF E ρ (rngD 0 k) [o] = some (nsD xs, [o']) ∧ Rg bd k xs ∧ GI n o' := by
  obtain ⟨ys, s', e1, e2, e3, o', e4, e5⟩ := compN_st (asg := nameG 5) (f := E) (ρ := ρ) (IsN bd) (fun i s => ∃ o, s = [o] ∧ GI (n + (3 - i)) o) (rngD 0 k) 0 (s := [o]) ⟨o, rfl, hg⟩ (fun i x s hi hJ => by
    obtain ⟨o, rfl, g⟩ := hJ
    have hjt := (rng_at hi).1
    obtain ⟨r, o', q, h1, h2, g'⟩ := rand_r (n := n + (3 - (0 + i + 1))) (o := o) (by
      rw [show n + (3 - (0 + i + 1)) + 1 = n + (3 - (0 + i)) by omega]
      exact g) hb
    exact ⟨_, .int r, [o'], rfl, by rw [hE]; exact q _ _, ⟨r, rfl, h1, h2⟩, o', rfl, g'⟩)
  obtain ⟨xs, rfl, h5⟩ := isN_ns e3
  subst e4
  exact ⟨xs, o', e1, ⟨by rw [List.length_map, rng_len] at e2; exact e2, h5⟩, e5.le (by omega)⟩
/-- what stands in the law's environment -/
structure Ev (ρ : Env') (k n : Nat) (f : List Int) (gs : List (List Int)) : Prop where
  len : ρ.length = 17
  h0 : ρ[0]? = some (some (.ref 0))
  h1 : ρ[1]? = some (some (.d (.int (k : Int))))
  h2 : ρ[2]? = some (some (.d (.int (n : Int))))
  h3 : ρ[3]? = some (some (.d (.tup (nsD f))))
  h4 : ρ[4]? = some (some (.d (.lst (fmD gs))))
  h7 : ρ[7]? = some (some (.d (.tup (nsD (insL n f gs)))))
theorem Ev.set {ρ : Env'} {k n : Nat} {f : List Int} {gs : List (List Int)} (E : Ev ρ k n f gs) (i : Nat) (x : Option Xv) (hi : (i != 0 && i != 1 && i != 2 && i != 3 && i != 4 && i != 7) = true) : Ev (ρ.set i x) k n f gs := by
  simp at hi
  obtain ⟨⟨⟨⟨⟨a, b⟩, c⟩, d⟩, e⟩, g⟩ := hi
  exact ⟨by rw [List.length_set, E.len], by rw [setg_ne a, E.h0], by rw [setg_ne b, E.h1], by rw [setg_ne c, E.h2], by rw [setg_ne d, E.h3], by rw [setg_ne e, E.h4], by rw [setg_ne g, E.h7]⟩
section
variable {k n : Nat} {f : List Int} {gs : List (List Int)} {ρ : Env'}
structure Sz (k n : Nat) (f : List Int) (gs : List (List Int)) : Prop where
  k3 : k ≤ 3
  n3 : n ≤ 3
  f : Rg tp30 (k + 1) f
  gl : gs.length = k
  g : ∀ g ∈ gs, Rg tp30 (n + 1) g
theorem B6_v {c : Nat} {o : O} {bd : Int} {t : Nat} (E : Ev ρ k n f gs) (S : Sz k n f gs) (hb : BdOk bd t) (hb2 : bd ≤ tp30) (hg : GI (c + 3) o) : ∃ r o', B6__law_good (ρ.set 10 (some (.d (.int bd)))) [o] = .nx r [o'] ∧ Ev r k n f gs ∧ GI c o' := by
  have E1 := E.set 10 (some (.d (.int bd))) rfl
  have h10 : (ρ.set 10 (some (.d (.int bd))))[10]? = some (some (.d (.int bd))) := setg_self (by rw [E.len]; decide)
  revert E1 h10
  generalize ρ.set 10 (some (.d (.int bd))) = ρ
  intro E h10
  obtain ⟨xs, o', e1, hx, g'⟩ := rands_c (n := c) (k := n) (o := o) (ρ := ρ.set 5 none) (E := E4__law_good) S.n3 hb hg (fun x s => by
    unfold E4__law_good
    simp [E.h0, h10])
  have X1 : Rg tp30 n xs := hx.mono hb2
  have X2 : Rg tp70 n xs := X1.mono (by decide)
  have E2 := E.set 11 (some (.d (.lst (nsD xs)))) rfl
  have h11 : (ρ.set 11 (some (.d (.lst (nsD xs)))))[11]? = some (some (.d (.lst (nsD xs)))) := setg_self (by rw [E.len]; decide)
  have V : compN (nameG 13) yesF E5__law_good ((ρ.set 11 (some (.d (.lst (nsD xs))))).set 13 none) (fmD gs) [o'] = some (nsD (gs.map (lin · xs)), [o']) := compN_get _ _ (by rw [List.length_map, List.length_map, List.length_map]) (fun j x z hxj hz => by
    rw [List.getElem?_map] at hxj hz
    obtain ⟨g, hgj, rfl⟩ := Option.map_eq_some_iff.mp hxj
    rw [List.getElem?_map, hgj] at hz
    cases hz
    refine ⟨_, rfl, ?_⟩
    have q := law_value_w S.n3 ((S.g g (List.mem_of_getElem? hgj)).mono (by decide)) X2 false [o']
    have a13 : (((ρ.set 11 (some (.d (.lst (nsD xs))))).set 13 none).set 13 (some (.d (.tup (nsD g)))))[13]? = some (some (.d (.tup (nsD g)))) := setg_self (by rw [List.length_set, E2.len]; decide)
    have a11 : (((ρ.set 11 (some (.d (.lst (nsD xs))))).set 13 none).set 13 (some (.d (.tup (nsD g)))))[11]? = some (some (.d (.lst (nsD xs)))) := by rw [setg_ne (by decide), setg_ne (by decide), h11]
    unfold E5__law_good
    simp only [e_callF, e_cons, e_nil, v_at a13, v_at a11, e_bA, e_bLA, e_bL, List.map_nil, List.append_nil, q])
  refine ⟨(ρ.set 11 (some (.d (.lst (nsD xs))))).set 12 (some (.d (.lst (nsD (gs.map (lin · xs)))))), o', ?_, E2.set 12 _ rfl, g'⟩
  unfold B6__law_good
  refine seq_go (r := ρ.set 11 (some (.d (.lst (nsD xs))))) (s2 := [o']) ?_ ?_
  · simp only [e_set, e_lc, e_rng1, e_cons, e_nil, v_at E.h2, e_bA, e_bLA, e_bL]
    rw [e_rng _ _ (by omega) (by have := S.n3; omega)]
    simp only [e_b, Int.toNat_natCast, e_wipe1, e_wipe0]
    rw [if_pos (by rw [rng_len]; have := S.n3; omega), e1]
    simp only [e_finL, e_bS]
  revert V E2 h11
  generalize ρ.set 11 (some (.d (.lst (nsD xs)))) = ρ1
  intro E2 h11 V
  refine seq_go (r := ρ1.set 12 (some (.d (.lst (nsD (gs.map (lin · xs))))))) (s2 := [o']) ?_ ?_
  · unfold iterF
    simp only [e_set, e_lc, v_at E2.h4, e_b, e_wipe1, e_wipe0]
    rw [if_pos (by rw [List.length_map, S.gl]; have := S.k3; omega), V]
    simp only [e_finL, e_bS]
  have h12 : (ρ1.set 12 (some (.d (.lst (nsD (gs.map (lin · xs)))))))[12]? = some (some (.d (.lst (nsD (gs.map (lin · xs)))))) := setg_self (by rw [E2.len]; decide)
  have h11' : (ρ1.set 12 (some (.d (.lst (nsD (gs.map (lin · xs)))))))[11]? = some (some (.d (.lst (nsD xs)))) := by rw [setg_ne (by decide), h11]
  have E3 := E2.set 12 (some (.d (.lst (nsD (gs.map (lin · xs)))))) rfl
  revert h12 h11' E3
  generalize ρ1.set 12 (some (.d (.lst (nsD (gs.map (lin · xs)))))) = ρ2
  intro h12 h11' E3
  have F := insL_rg (n := n) S.k3 S.f S.gl S.g
  have q1 := value_w S.n3 F X2 false [o']
  have q2 := law_value_w S.n3 F X2 false [o']
  have q3 := law_value_w (f := f) (xs := gs.map (lin · xs)) S.k3 (S.f.mono (by decide)) ⟨by rw [List.length_map, S.gl], fun z hz => by
    obtain ⟨g, hg', rfl⟩ := List.mem_map.mp hz
    exact lin_rg S.n3 (S.g g hg') X1⟩ false [o']
  have eq := lin_w S.f.len S.gl (fun g h => (S.g g h).len) X1.len
  simp only [e_ifS, e_or, e_op2, e_callF, e_callKF, e_callB, e_cons, e_nil, v_at E3.h7, v_at E3.h3, v_at h11', v_at h12, e_bA, e_bLA, e_bL, List.map_nil, List.append_nil, q1, q2, q3, e_b, eq_ii, eq, list_l]
  simp [permL, q1, q2]
end
end FL

set_option Elab.async false
set_option linter.all false
set_option maxRecDepth 100000
set_option maxHeartbeats 1000000
namespace FL
open PySem PySem.Spec PyProof.Rows L2
/-- a value that is no count -/
structure Bent (b : D) : Prop where
  pl : pl b = true
  fl : flatS 31 b = true
  no : isCnt b = false
def bents : List D := [.int (-1), .non, .bl true, .str "1", .tup [.int 1]]
theorem bents_ok {j : Nat} (h : j < 5) : ∃ b, bents[j]? = some b ∧ Bent b := by
  have hj : j = 0 ∨ j = 1 ∨ j = 2 ∨ j = 3 ∨ j = 4 := by omega
  rcases hj with rfl | rfl | rfl | rfl | rfl
  · exact ⟨_, rfl, rfl, rfl, rfl⟩
  · exact ⟨_, rfl, rfl, rfl, rfl⟩
  · exact ⟨_, rfl, rfl, rfl, rfl⟩
  · exact ⟨_, rfl, rfl, by decide +kernel, rfl⟩
  · exact ⟨_, rfl, rfl, rfl, rfl⟩
theorem cut_lo {α : Type} {xs : List α} {j : Nat} (h : j ≤ xs.length) : cutD xs none (some (j : Int)) = xs.take j := by
  unfold cutD
  rw [HT.sIx_none, HT.sIx_nat, Nat.min_eq_left h]
  rfl
theorem cut_hi {α : Type} {xs : List α} {j : Nat} (h : j ≤ xs.length) : cutD xs (some (j : Int)) none = xs.drop j := by
  unfold cutD
  rw [HT.sIx_none, HT.sIx_nat, Nat.min_eq_left h]
  exact List.take_of_length_le (by rw [List.length_drop]; exact Nat.le_refl _)
def isW (k : Nat) (x : D) : Prop := ∀ s, runC false F_is_form [.d (.int (k : Int)), .d x] s = .ok (.d (.bl false)) s
def bentF (f : List Int) (b : D) (j : Nat) : D := .tup ((nsD f).take j ++ [b] ++ (nsD f).drop (j + 1))
theorem bent_w {k : Nat} {f : List Int} {b : D} {j : Nat} (hk : k ≤ 3) (hf : f.length = k + 1) (hb : Bent b) (hj : j < k + 1) : isW k (bentF f b j) := fun s => by
  have hl : ((nsD f).take j ++ [b] ++ (nsD f).drop (j + 1)).length ≤ 1000 := by
    rw [List.length_append, List.length_append, List.length_take, List.length_drop, List.length_map, hf]
    simp
    omega
  have hO : Ok ((nsD f).take j ++ [b] ++ (nsD f).drop (j + 1)) := by
    have mem : ∀ x ∈ (nsD f).take j ++ [b] ++ (nsD f).drop (j + 1), x = b ∨ ∃ n, x = .int n := fun x hx => by
      rcases List.mem_append.mp hx with hx | hx
      · rcases List.mem_append.mp hx with hx | hx
        · obtain ⟨n, _, rfl⟩ := List.mem_map.mp (List.mem_of_mem_take hx)
          exact .inr ⟨n, rfl⟩
        · exact .inl (List.mem_singleton.mp hx)
      · obtain ⟨n, _, rfl⟩ := List.mem_map.mp (List.mem_of_mem_drop hx)
        exact .inr ⟨n, rfl⟩
    refine ⟨fun x hx => ?_, ?_, hl⟩
    · rcases mem x hx with rfl | ⟨n, rfl⟩
      · exact hb.pl
      · rfl
    · unfold flatS
      rw [List.all_eq_true]
      intro x hx
      rcases mem x hx with rfl | ⟨n, rfl⟩
      · exact hb.fl
      · rfl
  have hc : ((nsD f).take j ++ [b] ++ (nsD f).drop (j + 1)).all isCnt = false := by
    rw [List.all_append, List.all_append]
    have : [b].all isCnt = false := by rw [List.all_cons, hb.no]; rfl
    rw [this]
    simp
  exact run0_d (by unfold bentF; rw [is_form_v _ (by omega) hO, hc, Bool.and_false]) rfl
theorem no_w {k : Nat} {x : D} (hk : k ≤ 3) (h : noT x = true) : isW k x := fun s => run0_d (is_form_n _ (by omega) h) rfl
theorem len_w {k : Nat} {f : List Int} (hk : k ≤ 3) (hf : f.length ≠ k + 1) (h2 : f.length ≤ 1000) : isW k (.tup (nsD f)) := fun s => run0_d (by
  rw [is_form_v _ (by omega) (ok_ns h2), decide_eq_false (by rw [List.length_map]; omega)]; rfl) rfl
section
variable {k n : Nat} {f : List Int} {gs : List (List Int)} {ρ : Env'}
theorem e_sl_lo {xs : List D} {j : Nat} (m s) (h : j ≤ xs.length) : slX m (.d (.tup xs)) (.d .non) (.d (.int (j : Int))) s = .ok (.d (.tup (xs.take j))) s := by
  show Res.ok (.d (.tup (cutD xs none (some (j : Int))))) s = _
  rw [cut_lo h]
theorem e_sl_hi {xs : List D} {j : Nat} (m s) (h : j ≤ xs.length) : slX m (.d (.tup xs)) (.d (.int (j : Int))) (.d .non) s = .ok (.d (.tup (xs.drop j))) s := by
  show Res.ok (.d (.tup (cutD xs (some (j : Int)) none))) s = _
  rw [cut_hi h]
theorem e_app {g : FA} {ρ : Env'} {s : Sto} {fv : FE} {i : Nat} {xs : List D} {y : D} (h : fv ρ s = .ok (.ref i) s) (h2 : g ρ s = .ok [.d y] s) (h3 : s[i]? = some (.lst xs)) (h4 : xs.length < 1000000) : appF fv g ρ s = .ok (.d .non) (s.set i (.lst (xs ++ [y]))) := by
  unfold appF
  rw [h, e_b]
  dsimp only
  rw [h3]
  dsimp only
  rw [h2, e_bL]
  dsimp only
  rw [h3]
  dsimp only
  rw [if_pos h4]
theorem B8_v {o : O} {b : D} {j : Nat} {ws : List D} (E : Ev ρ k n f gs) (S : Sz k n f gs) (h15 : ρ[15]? = some (some (.ref 1))) (h16 : ρ[16]? = some (some (.d b))) (h5 : ρ[5]? = some (some (.d (.int (j : Int))))) (hj : j < k + 1) (hw : ws.length < 1000) :
    B8__law_good ρ [o, .lst ws] = .nx ρ [o, .lst (ws ++ [bentF f b j])] := by
  have hf : (nsD f).length = k + 1 := by rw [List.length_map, S.f.len]
  have k3 := S.k3
  have l1 : ((nsD f).take j).length = j := by rw [List.length_take, hf]; omega
  have l2 : ((nsD f).drop (j + 1)).length = k - j := by rw [List.length_drop, hf]; omega
  have a1 := e_sl_lo (xs := nsD f) (j := j) false [o, .lst ws] (by omega)
  have a2 := e_sl_hi (xs := nsD f) (j := j + 1) false [o, .lst ws] (by omega)
  have a3 := add_tup false ((nsD f).take j) [b] [o, .lst ws] (by rw [l1]; simp; omega)
  have a4 := add_tup false ((nsD f).take j ++ [b]) ((nsD f).drop (j + 1)) [o, .lst ws] (by rw [l2, List.length_append, l1]; simp; omega)
  rw [show ((j + 1 : Nat) : Int) = (j : Int) + 1 by push_cast; rfl] at a2
  unfold B8__law_good
  rw [e_expr, e_app (i := 1) (xs := ws) (y := bentF f b j)]
  · rfl
  · exact v_at h15
  · simp only [e_cons, e_nil, e_op2, e_slF, e_intF, e_tupF, v_at E.h3, v_at h5, v_at h16, e_lit, e_b, e_okI, prt_n, prt_i, e_bA, e_bLA, e_bL, pure_c, pure_n, e_add, a1, a2]
    simp [a1, a2, a3]
    simp at a4
    simp [a4]
    unfold bentF
    simp
  · rfl
  · omega
end
end FL

set_option Elab.async false
set_option linter.all false
set_option maxRecDepth 100000
set_option maxHeartbeats 1000000
namespace FL
open PySem PySem.Spec PyProof.Rows L2
theorem nat_of {r : Int} {b : Nat} (h : 0 ≤ r) (h2 : r < b) : ∃ j : Nat, r = j ∧ j < b := ⟨r.toNat, by omega, by omega⟩
theorem bd25' : BdOk 10000000000000000000000000 3 := ⟨by decide, by decide +kernel, by decide +kernel, by decide⟩
theorem pow25 (s) : powX (.d (.int 10)) (.d (.int 25)) s = .ok (.d (.int 10000000000000000000000000)) s := by
  show (if cPow 10 25 = true then Res.ok (.d (.int (10 ^ (25 : Int).toNat))) s else .stuck) = _
  rw [if_pos (by decide +kernel), show ((10 : Int) ^ (25 : Int).toNat) = 10000000000000000000000000 by decide +kernel]
@[simp] theorem e_asg (asg) (f : FE) (ρ s) : asgS asg f ρ s = (f ρ s).bindS ρ fun v s1 => match asg v ρ with | some r => .nx r s1 | none => .stuck := nr rfl
theorem eqX_rn (m : Bool) (xs : List Int) (s) : eqX m (.d (.tup (nsD xs))) (.d (.tup (nsD xs))) s = .ok (.d (.bl (!m))) s := eqX_r m s (flat_ns xs)
theorem eqX_rl (m : Bool) (xs : List Int) (s) : eqX m (.d (.lst (nsD xs))) (.d (.lst (nsD xs))) s = .ok (.d (.bl (!m))) s := eqX_r m s (flat_tl ▸ flat_ns xs)
theorem eqX_rf (m : Bool) (gs : List (List Int)) (s) : eqX m (.d (.lst (fmD gs))) (.d (.lst (fmD gs))) s = .ok (.d (.bl (!m))) s := eqX_r m s (flat_fm gs)
abbrev bigS : FS := S__law_good
theorem frz_v {ρ : Env'} {a : FS} {o : O} {ws : List D} {i : Nat} (h : ρ[i]? = some (some (.ref 1))) : frzS i a ρ [o, .lst ws] = a (ρ.map (frzO 1 (.lst ws))) [o, .dead] := by
  unfold frzS
  rw [h]
  rfl
theorem ex_go {a b : FS} {ρ r : Env'} {s s2 : Sto} {v : Xv} {P : O → Prop} (h : a ρ s = .nx r s2) (k : ∃ o', b r s2 = .rt v [o', .dead] ∧ P o') : ∃ o', seqS a b ρ s = .rt v [o', .dead] ∧ P o' := by
  obtain ⟨o', e, p⟩ := k
  exact ⟨o', seq_go h e, p⟩
theorem good_ok {c : Nat} {o : O} (hg : GI (c + 44) o) : ∃ o', F__law_good [.ref 0] [o] = .ok (.d (.bl true)) [o', .dead] ∧ GI c o' := by
  obtain ⟨r1, o1, e1, a1, b1, g1⟩ := rand_r (n := c + 43) hg bd4
  obtain ⟨k, rfl, hk⟩ := nat_of (b := 4) a1 b1
  obtain ⟨r2, o2, e2, a2, b2, g2⟩ := rand_r (n := c + 42) g1 bd4
  obtain ⟨n, rfl, hn⟩ := nat_of (b := 4) a2 b2
  obtain ⟨f, o3, e3, Rf, g3⟩ := form_r (n := c + 34) (k := k) (by omega) g2
  obtain ⟨gs, o4, e4, gl, Rgs, g4⟩ := forms_c (n := c + 10) (k := k) (j := n) (ρ := [some (.ref 0), some (.d (.int (k : Int))), some (.d (.int (n : Int))), none, none, none, none, none, none, none, none, none, none, none, none, none, none]) (by omega) (by omega) g3 rfl rfl
  have S : Sz k n f gs := ⟨by omega, by omega, Rf, gl, Rgs⟩
  have k3 := S.k3
  have n3 := S.n3
  have F := insL_rg (n := n) S.k3 S.f S.gl S.g
  have qi := inserted_w S.k3 S.n3 S.f S.gl S.g
  suffices h : ∃ o', S__law_good [some (.ref 0), none, none, none, none, none, none, none, none, none, none, none, none, none, none, none, none] [o] = .rt (.d (.bl true)) [o', .dead] ∧ GI c o' by
    obtain ⟨o', h, g⟩ := h
    refine ⟨o', ?_, g⟩
    unfold F__law_good
    rw [e_body]
    show runOut (S__law_good [some (.ref 0), none, none, none, none, none, none, none, none, none, none, none, none, none, none, none, none] [o]) = _
    rw [h]
    rfl
  unfold S__law_good
  suffices h : ∃ o', _ = Out.rt (.d (.bl true)) [o', .dead] ∧ GI c o' by
    obtain ⟨o', h, g⟩ := h
    refine ⟨o', seq_go (r := [some (.ref 0), some (.d (.int (k : Int))), some (.d (.int (n : Int))), none, none, none, none, none, none, none, none, none, none, none, none, none, none]) (s2 := [o2]) ?_ (seq_go (r := [some (.ref 0), some (.d (.int (k : Int))), some (.d (.int (n : Int))), some (.d (.tup (nsD f))), some (.d (.lst (fmD gs))), none, none, none, none, none, none, none, none, none, none, none, none]) (s2 := [o4]) ?_ (seq_go (r := [some (.ref 0), some (.d (.int (k : Int))), some (.d (.int (n : Int))), some (.d (.tup (nsD f))), some (.d (.lst (fmD gs))), none, some (.d (.lst (fmD gs))), none, none, none, none, none, none, none, none, none, none]) (s2 := [o4]) ?_ (seq_go (r := [some (.ref 0), some (.d (.int (k : Int))), some (.d (.int (n : Int))), some (.d (.tup (nsD f))), some (.d (.lst (fmD gs))), none, some (.d (.lst (fmD gs))), some (.d (.tup (nsD (insL n f gs)))), none, none, none, none, none, none, none, none, none]) (s2 := [o4]) ?_ h))), g⟩
    · simp [e1, e2]
    · simp [e3]
      rw [e_rng _ _ (by omega) (by omega)]
      simp
      rw [if_pos (by rw [rng_len]; omega)]
      rw [e4]
      simp
    · simp
    · have q := qi false [o4]
      simp [q]
  have E0 : Ev [some (.ref 0), some (.d (.int (k : Int))), some (.d (.int (n : Int))), some (.d (.tup (nsD f))), some (.d (.lst (fmD gs))), none, some (.d (.lst (fmD gs))), some (.d (.tup (nsD (insL n f gs)))), none, none, none, none, none, none, none, none, none] k n f gs := ⟨rfl, rfl, rfl, rfl, rfl, rfl, rfl⟩
  have h6 : ([some (.ref 0), some (.d (.int (k : Int))), some (.d (.int (n : Int))), some (.d (.tup (nsD f))), some (.d (.lst (fmD gs))), none, some (.d (.lst (fmD gs))), some (.d (.tup (nsD (insL n f gs)))), none, none, none, none, none, none, none, none, none] : Env')[6]? = some (some (.d (.lst (fmD gs)))) := rfl
  revert E0 h6
  generalize ([some (.ref 0), some (.d (.int (k : Int))), some (.d (.int (n : Int))), some (.d (.tup (nsD f))), some (.d (.lst (fmD gs))), none, some (.d (.lst (fmD gs))), some (.d (.tup (nsD (insL n f gs)))), none, none, none, none, none, none, none, none, none] : Env') = ρ
  intro E0 h6
  -- line 5
  have fl := F.len
  have qf := is_form_w (k := n) (n := 0) S.n3 F false [o4]
  refine ex_go (r := ρ) (s2 := [o4]) ?_ ?_
  · simp only [e_ifS, e_or, e_not, e_op2, e_callB, e_callF, e_cons, e_nil, v_at h6, v_at E0.h4, v_at E0.h7, v_at E0.h2, e_lit, e_bA, e_bLA, e_bL, e_b, eqX_rf, is_tup_t, len_t, List.length_map, fl, List.map_nil, List.append_nil, qf]
    simp [qf]
  clear h6
  -- due
  have due : insL n f gs = dueL n (f.getD 0 0) f.tail gs := due_eq n _ (by rw [List.length_tail, S.f.len, S.gl]; rfl) (fun g h => (S.g g h).len)
  have i0 : ∀ s, ixX (.d (.tup (nsD f))) (.d (.int 0)) s = .ok (.d (.int (f.getD 0 0))) s := fun s => ix_t (j := 0) (at_ns (by rw [S.f.len]; omega))
  have c1 := E1_v (ρ := ρ.set 5 none) S.f S.gl S.g (by rw [setg_ne (by decide), E0.h3]) (by rw [setg_ne (by decide), E0.h4]) (by rw [List.length_set, E0.len]; decide) [o4]
  refine ex_go (r := ρ.set 8 (some (.d (.lst [.int (f.getD 0 0 + sumP 0 f.tail gs)])))) (s2 := [o4]) ?_ ?_
  · simp only [e_set, e_lstF, e_op2, e_callB, e_cons, e_nil, v_at E0.h1, v_at E0.h3, e_lit, e_bA, e_bLA, e_bL, e_b, i0, e_lc, e_rng1]
    rw [e_rng _ _ (by omega) (by omega)]
    simp only [e_b, Int.toNat_natCast, e_wipe1, e_wipe0]
    rw [if_pos (by rw [rng_len]; omega), c1]
    simp only [e_finL, e_bA, e_bL, sum_ns, e_b, e_add]
    simp
    rfl
  have h8 : (ρ.set 8 (some (.d (.lst [.int (f.getD 0 0 + sumP 0 f.tail gs)]))))[8]? = some (some (.d (.lst [.int (f.getD 0 0 + sumP 0 f.tail gs)]))) := setg_self (by rw [E0.len]; decide)
  have E1 := E0.set 8 (some (.d (.lst [.int (f.getD 0 0 + sumP 0 f.tail gs)]))) rfl
  clear c1
  revert h8 E1
  generalize ρ.set 8 (some (.d (.lst [.int (f.getD 0 0 + sumP 0 f.tail gs)]))) = ρ1
  intro h8 E1
  have c3 := E3_v (ρ := ρ1.set 9 none) S.k3 S.f S.gl S.g (by rw [setg_ne (by decide), E1.h1]) (by rw [setg_ne (by decide), E1.h3]) (by rw [setg_ne (by decide), E1.h4]) (by rw [List.length_set, E1.len]; decide) [o4]
  refine ex_go (r := ρ1.set 8 (some (.d (.lst (nsD (insL n f gs)))))) (s2 := [o4]) ?_ ?_
  · simp only [e_set, e_op2, e_cons, e_nil, v_at E1.h2, v_at h8, e_bA, e_bLA, e_bL, e_b, e_lc, e_rng1]
    rw [e_rng _ _ (by omega) (by omega)]
    simp only [e_b, Int.toNat_natCast, e_wipe1, e_wipe0]
    rw [if_pos (by rw [rng_len]; omega), c3]
    simp only [e_finL, e_b]
    rw [add_lst _ _ _ _ (by simp; omega), due]
    rfl
  have h8' : (ρ1.set 8 (some (.d (.lst (nsD (insL n f gs))))))[8]? = some (some (.d (.lst (nsD (insL n f gs))))) := setg_self (by rw [E1.len]; decide)
  have E2 := E1.set 8 (some (.d (.lst (nsD (insL n f gs))))) rfl
  clear c3 h8 E1
  revert h8' E2
  generalize ρ1.set 8 (some (.d (.lst (nsD (insL n f gs))))) = ρ2
  intro h8 E2
  refine ex_go (r := ρ2) (s2 := [o4]) ?_ ?_
  · simp only [e_ifS, e_or, e_op2, e_callB, e_callKF, e_cons, e_nil, v_at h8, v_at E2.h7, v_at E2.h4, v_at E2.h3, v_at E2.h2, e_bA, e_bLA, e_bL, e_b, list_t, eqX_rl, permL]
    simp [qi, eqX_rn]
  -- the points
  obtain ⟨ρ3, o5, l1, E3, g5⟩ := B6_v (c := c + 7) E2 S bd3 (by decide) g4
  obtain ⟨ρ4, o6, l2, E4, g6⟩ := B6_v (c := c + 4) E3 S bd25' (by decide) g5
  refine ex_go (r := ρ4) (s2 := [o6]) ?_ ?_
  · unfold iterF
    simp [pow25]
    rw [forF_cons (e_name _ _ _) l1, forF_cons (e_name _ _ _) l2, forF_nil]
  -- near
  obtain ⟨xs, o7, c5, Rx, g7⟩ := rands_c (n := c + 1) (k := k) (o := o6) (ρ := ρ4.set 5 none) (E := E7__law_good) S.k3 bd9 g6 (fun x s => by
    unfold E7__law_good
    simp [E4.h0])
  refine ex_go (r := ρ4.set 14 (some (.d (.lst (nsD xs))))) (s2 := [o7]) ?_ ?_
  · simp only [e_set, e_lc, e_rng1, e_cons, e_nil, v_at E4.h1, e_bA, e_bLA, e_bL]
    rw [e_rng _ _ (by omega) (by omega)]
    simp only [e_b, Int.toNat_natCast, e_wipe1, e_wipe0]
    rw [if_pos (by rw [rng_len]; omega), c5]
    simp only [e_finL, e_bS]
  have h14 : (ρ4.set 14 (some (.d (.lst (nsD xs)))))[14]? = some (some (.d (.lst (nsD xs)))) := setg_self (by rw [E4.len]; decide)
  have E5 := E4.set 14 (some (.d (.lst (nsD xs)))) rfl
  clear c5
  revert h14 E5
  generalize ρ4.set 14 (some (.d (.lst (nsD xs)))) = ρ5
  intro h14 E5
  have q1 := value_w S.k3 (S.f.mono (by decide)) (Rx.mono (by decide)) false [o7]
  have q2 := law_value_w S.k3 (S.f.mono (by decide)) (Rx.mono (by decide)) false [o7]
  have q3 := is_form_w (k := k) (n := 0) S.k3 (S.f.mono (by decide)) false [o7]
  refine ex_go (r := ρ5) (s2 := [o7]) ?_ ?_
  · simp only [e_ifS, e_or, e_op2, e_callF, e_callKF, e_cons, e_nil, v_at h14, v_at E5.h3, v_at E5.h1, e_lit, e_bA, e_bLA, e_bL, e_b, permL, List.map_nil, List.append_nil, q1, q2, eq_ii]
    simp [q3]
  -- the bent forms
  obtain ⟨r3, o8, e8, a8, b8, g8⟩ := rand_r (n := c) g7 bd5
  obtain ⟨j, rfl, hj⟩ := nat_of (b := 5) a8 b8
  obtain ⟨b, hb, Bb⟩ := bents_ok hj
  have nl : (nsD f).length = k + 1 := by rw [List.length_map, S.f.len]
  have w1 : ∀ x ∈ [D.lst (nsD f), .tup (nsD (f ++ [0])), .tup (nsD (f.drop 1)), .non, .int 3, .str "1"], isW k x := fun x hx => by
    simp only [List.mem_cons, List.not_mem_nil, or_false] at hx
    rcases hx with rfl | rfl | rfl | rfl | rfl | rfl
    · exact no_w S.k3 rfl
    · exact len_w S.k3 (by rw [List.length_append, S.f.len]; simp) (by rw [List.length_append, S.f.len]; simp; omega)
    · exact len_w S.k3 (by rw [List.length_drop, S.f.len]; omega) (by rw [List.length_drop, S.f.len]; omega)
    · exact no_w S.k3 rfl
    · exact no_w S.k3 rfl
    · exact no_w S.k3 rfl
  have sl : ∀ s, slX false (.d (.tup (nsD f))) (.d (.int 1)) (.d .non) s = .ok (.d (.tup (nsD (f.drop 1)))) s := fun s => by
    have q := e_sl_hi (xs := nsD f) (j := 1) false s (by omega)
    rw [show (nsD f).drop 1 = nsD (f.drop 1) from List.map_drop.symm] at q
    exact q
  have ad : ∀ s, addX false (.d (.tup (nsD f))) (.d (.tup [.int 0])) s = .ok (.d (.tup (nsD (f ++ [0])))) s := fun s => by
    rw [add_tup _ _ _ _ (by rw [nl]; simp; omega)]
    simp
  have ib : ∀ s, ixX (.d (.lst [.int (-1), .non, .bl true, .str "1", .tup [.int 1]])) (.d (.int (j : Int))) s = .ok (.d b) s := fun s => ix_l hb
  refine ex_go (r := (ρ5.set 15 (some (.ref 1))).set 16 (some (.d b))) (s2 := [o8, .lst [D.lst (nsD f), .tup (nsD (f ++ [0])), .tup (nsD (f.drop 1)), .non, .int 3, .str "1"]]) ?_ ?_
  · unfold par2S
    simp only [e_op2, e_lstF, e_tupF, e_callB, e_slF, e_intF, e_neg, e_callF, e_cons, e_nil, v_at E5.h3, v_at E5.h0, e_lit, e_bA, e_bLA, e_bL, e_b, list_t, pure_n, pure_c, e_okI, prt_i, prt_n]
    simp [ad, sl, e8, ib]
  have E6 := (E5.set 15 (some (.ref 1)) rfl).set 16 (some (.d b)) rfl
  have h15 : ((ρ5.set 15 (some (.ref 1))).set 16 (some (.d b)))[15]? = some (some (.ref 1)) := by
    rw [setg_ne (by decide)]
    exact setg_self (by rw [E5.len]; decide)
  have h16 : ((ρ5.set 15 (some (.ref 1))).set 16 (some (.d b)))[16]? = some (some (.d b)) := setg_self (by rw [List.length_set, E5.len]; decide)
  revert E6 h15 h16
  generalize (ρ5.set 15 (some (.ref 1))).set 16 (some (.d b)) = ρ6
  intro E6 h15 h16
  obtain ⟨ρ7, s7, l7, E7, j15, j16, ws, rfl, lw, aw⟩ := forF_inv (asg := nameG 5) (b := B8__law_good) (fun i ρ s => Ev ρ k n f gs ∧ ρ[15]? = some (some (.ref 1)) ∧ ρ[16]? = some (some (.d b)) ∧ ∃ ws, s = [o8, .lst ws] ∧ ws.length = 6 + i ∧ ∀ x ∈ ws, isW k x) (rngD 0 (k + 1)) 0
    (ρ := ρ6) (s := [o8, .lst [D.lst (nsD f), .tup (nsD (f ++ [0])), .tup (nsD (f.drop 1)), .non, .int 3, .str "1"]]) ⟨E6, h15, h16, _, rfl, rfl, w1⟩ (fun i x ρ s hi hI => by
      obtain ⟨E, q15, q16, ws, rfl, lw, aw⟩ := hI
      obtain ⟨hik, rfl⟩ := rng_at hi
      rw [Int.zero_add]
      refine ⟨_, _, _, rfl, B8_v (j := i) (b := b) (ws := ws) (o := o8) (E.set 5 _ rfl) S (by rw [setg_ne (by decide), q15]) (by rw [setg_ne (by decide), q16]) (setg_self (by rw [E.len]; decide)) hik (by omega), E.set 5 _ rfl, by rw [setg_ne (by decide), q15], by rw [setg_ne (by decide), q16], _, rfl, by rw [List.length_append, lw]; simp; omega, fun x hx => ?_⟩
      rcases List.mem_append.mp hx with hx | hx
      · exact aw x hx
      · rw [List.mem_singleton.mp hx]
        exact bent_w S.k3 S.f.len Bb hik)
  rw [rng_len] at lw
  refine ex_go (r := ρ7) (s2 := [o8, .lst ws]) ?_ ?_
  · simp only [e_for, e_rng1, e_cons, e_nil, e_op2, e_lit, v_at E6.h1, e_bA, e_bLA, e_bL, e_b, e_add]
    rw [e_rng _ _ (by omega) (by omega)]
    simp only [e_bS]
    rw [show ((k : Int) + 1).toNat = k + 1 by omega, l7]
  rw [frz_v j15]
  have f15 : (ρ7.map (frzO 1 (.lst ws)))[15]? = some (some (.d (.lst ws))) := by
    rw [List.getElem?_map, j15]
    rfl
  have f1 : (ρ7.map (frzO 1 (.lst ws)))[1]? = some (some (.d (.int (k : Int)))) := by
    rw [List.getElem?_map, E7.h1]
    rfl
  have f13 : 13 < (ρ7.map (frzO 1 (.lst ws))).length := by rw [List.length_map, E7.len]; decide
  revert f15 f1 f13
  generalize ρ7.map (frzO 1 (.lst ws)) = ρ8
  intro f15 f1 f13
  have cn := compN_none (asg := nameG 13) (t := T9__law_good) (f := E10__law_good) (ρ := ρ8.set 13 none) (s := [o8, .dead]) ws (fun x hx => ⟨_, rfl, by
    have q := aw x hx [o8, .dead]
    have a1 : ((ρ8.set 13 none).set 13 (some (.d x)))[1]? = some (some (.d (.int (k : Int)))) := by rw [setg_ne (by decide), setg_ne (by decide), f1]
    have a13 : ((ρ8.set 13 none).set 13 (some (.d x)))[13]? = some (some (.d x)) := setg_self (by rw [List.length_set]; exact f13)
    unfold T9__law_good
    simp only [e_op2, e_callF, e_cons, e_nil, v_at a1, v_at a13, e_lit, e_bA, e_bLA, e_bL, e_b, List.map_nil, List.append_nil, q, isbl_b]
    simp⟩)
  refine ⟨o8, ?_, g8⟩
  unfold iterF
  simp only [e_ret, e_op2, e_lc, v_at f15, e_b, e_wipe1, e_wipe0]
  rw [if_pos (by omega), cn]
  simp [eq_nn]
end FL

set_option Elab.async false
set_option linter.all false
set_option maxRecDepth 100000
set_option maxHeartbeats 1000000
namespace FL
open PySem PySem.Spec PyProof.Rows L2
theorem pow18 (s) : powX (.d (.int 10)) (.d (.int 18)) s = .ok (.d (.int 1000000000000000000)) s := by
  show (if cPow 10 18 = true then Res.ok (.d (.int (10 ^ (18 : Int).toNat))) s else .stuck) = _
  rw [if_pos (by decide +kernel), show ((10 : Int) ^ (18 : Int).toNat) = 1000000000000000000 by decide +kernel]
theorem pow60 (s) : powX (.d (.int 10)) (.d (.int 60)) s = .ok (.d (.int tp60)) s := by
  show (if cPow 10 60 = true then Res.ok (.d (.int (10 ^ (60 : Int).toNat))) s else .stuck) = _
  rw [if_pos (by decide +kernel), show ((10 : Int) ^ (60 : Int).toNat) = tp60 by decide +kernel]
theorem pow600 : ∃ b : Int, 0 < b ∧ ∀ s, powX (.d (.int tp60)) (.d (.int 10)) s = .ok (.d (.int b)) s :=
  ⟨tp60 ^ (10 : Int).toNat, by decide +kernel, fun s => by
    show (if cPow tp60 10 = true then Res.ok (.d (.int (tp60 ^ (10 : Int).toNat))) s else .stuck) = _
    rw [if_pos (by decide +kernel)]⟩
@[simp] theorem e_max (i j s) : maxX [.d (.int i), .d (.int j)] s = .ok (.d (.int (if j > i then j else i))) s := nr rfl
theorem len_scr (a s) : lenX [.d (.scr a)] s = .ok (.d (.int a.length)) s := nr rfl
theorem ix_scr {xs : List Int} {j : Nat} {v : Int} {s} (h : xs[j]? = some v) : ixX (.d (.scr xs)) (.d (.int (j : Int))) s = .ok (.d (.int v)) s := by
  show (match atI xs (j : Int) with | some v => okI v s | none => .stuck) = _
  rw [at_nat h]
  rfl
theorem sl_scr (xs : List Int) (s) : slX false (.d (.scr xs)) (.d .non) (.d (.int 1)) s = .ok (.d (.lst (nsD (cutD xs none (some 1))))) s := nr rfl
theorem gen_ok (ns : List Int) {i : Nat} (hi : i < 3) : ∃ o, F__law_generator [.d (.scr ns), .d (.int (i : Int))] [] = .ok (.ref 0) [o] ∧ GI 44 o := by
  obtain ⟨B, hB, pB⟩ := pow600
  suffices h : ∀ seed : Int, (ifF (op2F (ltX) (varF 1) (callBF lenX (consA (varF 0) nilA))) (op2F ixX (varF 0) (varF 1)) (op2F modX (callBF sumX (consA (slF false (varF 0) (litF .non) (intF (litF (.int 1)))) nilA)) (litF (.int 1000003)))) [some (.d (.scr ns)), some (.d (.int (i : Int))), none] [] = .ok (.d (.int seed)) [] → ∃ o, F__law_generator [.d (.scr ns), .d (.int (i : Int))] [] = .ok (.ref 0) [o] ∧ GI 44 o by
    by_cases h0 : i < ns.length
    · refine h ns[i] ?_
      have q := ix_scr (s := []) (List.getElem?_eq_getElem h0)
      simp [len_scr, show (i : Int) < ns.length by omega, q]
    · refine h ((cutD ns none (some 1)).sum % 1000003) ?_
      have q := sum_ns (cutD ns none (some 1)) []
      simp [len_scr, show ¬ (i : Int) < ns.length by omega, sl_scr]
      rw [e_mod _ _ _ (by decide)]
  intro seed hs
  have hm : ∀ x : Int, 0 ≤ (if 0 > x then (0 : Int) else x) := fun x => by split <;> omega
  refine ⟨gen ((if 0 > seed - 1000000000000000000 then 0 else seed - 1000000000000000000) % B) (seed % 2147483647) (1000 * i), ?_, _, _, _, rfl, Int.emod_nonneg _ (by omega), Int.emod_nonneg _ (by decide), Int.emod_lt_of_pos _ (by decide), by omega, by omega⟩
  unfold F__law_generator S__law_generator
  rw [e_body]
  show runOut (seqS _ _ [some (.d (.scr ns)), some (.d (.int (i : Int))), none] []) = _
  rw [seq_go (r := [some (.d (.scr ns)), some (.d (.int (i : Int))), some (.d (.int seed))]) (s2 := []) (by rw [e_set, hs]; simp) rfl]
  simp [pow18, pow60, pB, e_mod _ _ _ hB, e_mod _ _ _ (show (0 : Int) < 2147483647 by decide)]
  rw [e_mul2 _ _ _ _ (by unfold Bd; omega) (by unfold Bd; omega)]
  simp
theorem refused_ok : F__law_refused [] [] = .ok (.d (.bl true)) [] := by kernel_rfl
theorem fin_v : ∀ (ρ s), ρ.length = 3 → (seqS (setS 2 (lstF false (consA (callF false F_value [] (consA (tupF (consA (litF (.int 3)) (consA (litF (.int 1)) (consA (litF (.int 2)) nilA)))) (consA (lstF false (consA (litF (.int 10)) (consA (litF (.int 100)) nilA))) nilA))) (consA (callF false F_inserted [] (consA (tupF (consA (litF (.int 1)) (consA (litF (.int 2)) (consA (litF (.int 3)) nilA)))) (consA (litF (.int 1)) (consA (lstF false (consA (tupF (consA (litF (.int 5)) (consA (litF (.int 1)) nilA))) (consA (tupF (consA (litF (.int 0)) (consA (litF (.int 4)) nilA))) nilA))) nilA)))) (consA (callF false F_inserted [] (consA (tupF (consA (litF (.int 7)) nilA)) (consA (litF (.int 0)) (consA (lstF false nilA) nilA)))) (consA (callF false F_inserted [] (consA (tupF (consA (litF (.int 7)) nilA)) (consA (litF (.int 2)) (consA (lstF false nilA) nilA)))) nilA)))))) (retS (andF (op2F (eqX false) (op2F (addX false) (varF 2) (lstF false (consA (callF false F_value [] (consA (tupF (consA (litF (.int 4)) nilA)) (consA (lstF false nilA) nilA))) nilA))) (lstF false (consA (litF (.int 213)) (consA (tupF (consA (litF (.int 11)) (consA (litF (.int 14)) nilA))) (consA (tupF (consA (litF (.int 7)) nilA)) (consA (tupF (consA (litF (.int 7)) (consA (litF (.int 0)) (consA (litF (.int 0)) nilA)))) (consA (litF (.int 4)) nilA))))))) (callF false F__law_refused [] nilA)))) ρ s = .rt (.d (.bl true)) s := by
  intro ρ s hl
  match ρ, hl with
  | [a, b, c], _ =>
    have q1 : runC false F_value [.d (.tup [.int 3, .int 1, .int 2]), .d (.lst [.int 10, .int 100])] s = .ok (.d (.int 213)) s := run0_d (s2 := []) (by kernel_rfl) rfl
    have q2 : runC false F_inserted [.d (.tup [.int 1, .int 2, .int 3]), .d (.int 1), .d (.lst [.tup [.int 5, .int 1], .tup [.int 0, .int 4]])] s = .ok (.d (.tup [.int 11, .int 14])) s := run0_d (s2 := []) (by kernel_rfl) rfl
    have q3 : runC false F_inserted [.d (.tup [.int 7]), .d (.int 0), .d (.lst [])] s = .ok (.d (.tup [.int 7])) s := run0_d (s2 := []) (by kernel_rfl) rfl
    have q4 : runC false F_inserted [.d (.tup [.int 7]), .d (.int 2), .d (.lst [])] s = .ok (.d (.tup [.int 7, .int 0, .int 0])) s := run0_d (s2 := []) (by kernel_rfl) rfl
    have q5 : runC false F_value [.d (.tup [.int 4]), .d (.lst [])] s = .ok (.d (.int 4)) s := run0_d (s2 := []) (by kernel_rfl) rfl
    have q6 : runC false F__law_refused [] s = .ok (.d (.bl true)) s := run0_d refused_ok rfl
    have ad : addX false (.d (.lst [.int 213, .tup [.int 11, .int 14], .tup [.int 7], .tup [.int 7, .int 0, .int 0]])) (.d (.lst [.int 4])) s = .ok (.d (.lst [.int 213, .tup [.int 11, .int 14], .tup [.int 7], .tup [.int 7, .int 0, .int 0], .int 4])) s := add_lst _ _ _ _ (by decide)
    have eq := eqX_r false (d := .lst [.int 213, .tup [.int 11, .int 14], .tup [.int 7], .tup [.int 7, .int 0, .int 0], .int 4]) s rfl
    simp [q1, q2, q3, q4, q5, q6, ad, eq]
theorem good_r {s : Sto} {o : O} {i : Nat} (h : s[i]? = some o) (hg : GI 44 o) : ∃ o', runC false F__law_good [.ref i] s = .ok (.d (.bl true)) (s.set i o') := by
  obtain ⟨o', e, g⟩ := good_ok (c := 0) hg
  refine ⟨o', ?_⟩
  obtain ⟨a, b, c, rfl, _⟩ := hg
  obtain ⟨a', b', c', rfl, _⟩ := g
  unfold runC
  show (if allEq i [] = true then run1 false F__law_good [.ref i] i s else .stuck) = _
  rw [if_pos (by rfl)]
  unfold run1
  rw [h]
  dsimp only
  show (match F__law_good [.ref 0] [gen a b c] with
    | .ok (.d v) s2 => match get0 s2 with | some o2 => Res.ok (.d v) (s.set i o2) | none => .stuck
    | .ok (.ref j) s2 => match get0 s2 with
      | some o2 => if j = 0 then .ok (.ref i) (s.set i o2) else match s2[j]? with | some u => mkO false u (s.set i o2) | none => .stuck
      | none => .stuck
    | .exc e s2 => match get0 s2 with | some o2 => .exc e (s.set i o2) | none => .stuck
    | .stuck => .stuck) = _
  rw [e]
  rfl
theorem gen_r (ns : List Int) {i : Nat} (hi : i < 3) (s : Sto) : ∃ o, runC true F__law_generator [.d (.scr ns), .d (.int (i : Int))] s = .ok (.ref s.length) (s ++ [o]) ∧ GI 44 o := by
  obtain ⟨o, e, g⟩ := gen_ok ns hi
  refine ⟨o, ?_, g⟩
  obtain ⟨a, b, c, rfl, _⟩ := g
  unfold runC
  show run0 true F__law_generator [.d (.scr ns), .d (.int (i : Int))] s = _
  unfold run0
  rw [e]
  rfl
theorem law_ok (ns : List Int) : ∃ s, F_law [.d (.scr ns)] [] = .ok (.d (.bl true)) s := by
  obtain ⟨ρ', s', l, h0, h1⟩ := forF_inv (asg := nameG 1) (b := B0_law) (fun i ρ s => ρ.length = 3 ∧ ρ[0]? = some (some (.d (.scr ns)))) (rngD 0 3) 0 (ρ := [some (.d (.scr ns)), none, none]) (s := []) ⟨rfl, rfl⟩ (fun i x ρ s hi hI => by
    obtain ⟨hi3, rfl⟩ := rng_at hi
    rw [Int.zero_add]
    obtain ⟨o, e, g⟩ := gen_r ns hi3 s
    obtain ⟨o', e2⟩ := good_r (s := s ++ [o]) (i := s.length) (by rw [List.getElem?_append_right (Nat.le_refl _), Nat.sub_self]; rfl) g
    have a0 : (ρ.set 1 (some (.d (.int i))))[0]? = some (some (.d (.scr ns))) := by rw [setg_ne (by decide), hI.2]
    have a1 : (ρ.set 1 (some (.d (.int i))))[1]? = some (some (.d (.int i))) := setg_self (by rw [hI.1]; decide)
    refine ⟨_, _, (s ++ [o]).set s.length o', rfl, ?_, by rw [List.length_set, hI.1], a0⟩
    · unfold B0_law
      simp only [e_ifS, e_not, e_callF, e_cons, e_nil, v_at a0, v_at a1, e_bA, e_bLA, e_bL, e_b, List.map_nil, List.append_nil, e, e2]
      simp)
  refine ⟨s', ?_⟩
  have fin := fin_v ρ' s' h0
  unfold F_law S_law
  rw [e_body]
  show runOut (seqS _ _ [some (.d (.scr ns)), none, none] []) = _
  rw [seq_go (r := ρ') (s2 := s') (by
    simp
    rw [e_rng _ _ (by decide) (by decide)]
    simp
    exact l) fin]
  rfl
end FL

set_option Elab.async false
set_option linter.all false
set_option maxRecDepth 100000
set_option maxHeartbeats 4000000
namespace FL
open PySem PySem.Spec PyProof.Rows L2
theorem law_fin {P : Program} {w : World} {K : PySem.W.Frag} {mg : Str → Option Value} {h : Heap} {ct : Nat → Addr} {f_is_whole f_is_between f_are_counts f_is_point f_is_form_for f_check_number f_check_many f_check_point f_is_form f_is_any_form f_check_any_form f_plain f_value_at f_form_sum f_form_times f_form_inserted f_value f_check_forms f_inserted f__law_hash f__law_generator f__law_random f__law_number f__law_form f__law_value f__law_good f__law_caught f__law_only f__law_refused f_law lawA : Addr} (X : K.In h) (G : h.Ns mainGlobals mg) (B : Tb P K mg ct) (hl : mg "law" = some (.ref lawA))
    (a_is_whole : FnF K "is_whole" (top 8) f_is_whole)
    (a_is_between : FnF K "is_between" (top 9) f_is_between)
    (a_are_counts : FnF K "are_counts" (top 10) f_are_counts)
    (a_is_point : FnF K "is_point" (top 11) f_is_point)
    (a_is_form_for : FnF K "is_form_for" (top 12) f_is_form_for)
    (a_check_number : FnF K "check_number" (top 13) f_check_number)
    (a_check_many : FnF K "check_many" (top 14) f_check_many)
    (a_check_point : FnF K "check_point" (top 15) f_check_point)
    (a_is_form : FnF K "is_form" (top 17) f_is_form)
    (a_is_any_form : FnF K "is_any_form" (top 18) f_is_any_form)
    (a_check_any_form : FnF K "check_any_form" (top 19) f_check_any_form)
    (a_plain : FnF K "plain" (top 20) f_plain)
    (a_value_at : FnF K "value_at" (top 21) f_value_at)
    (a_form_sum : FnF K "form_sum" (top 22) f_form_sum)
    (a_form_times : FnF K "form_times" (top 23) f_form_times)
    (a_form_inserted : FnF K "form_inserted" (top 24) f_form_inserted)
    (a_value : FnF K "value" (top 25) f_value)
    (a_check_forms : FnF K "check_forms" (top 26) f_check_forms)
    (a_inserted : FnF K "inserted" (top 27) f_inserted)
    (a__law_hash : FnF K "_law_hash" (top 29) f__law_hash)
    (a__law_generator : FnF K "_law_generator" (top 30) f__law_generator)
    (a__law_random : FnF K "_law_random" (top 31) f__law_random)
    (a__law_number : FnF K "_law_number" (top 32) f__law_number)
    (a__law_form : FnF K "_law_form" (top 33) f__law_form)
    (a__law_value : FnF K "_law_value" (top 34) f__law_value)
    (a__law_good : FnF K "_law_good" (top 35) f__law_good)
    (a__law_caught : FnF K "_law_caught" (top 36) f__law_caught)
    (a__law_only : FnF K "_law_only" (top 37) f__law_only)
    (a__law_refused : FnF K "_law_refused" (top 38) f__law_refused)
    (a_law : FnF K "law" (top 39) f_law)
    : ∃ (T : Tx) (fd : FuncData), T.K = K ∧ (∀ (s : Shared) (u : Value), BindsTo s fd ⟨[u], []⟩ [("_law_script", u)]) ∧ ∀ base : Heap, K.In base → base.Ns mainGlobals mg → FnG P w K mg base 10 lawA fd ["_law_script"] (spF T 1 F_law) := by
  have hD_is_whole : ∀ base : Heap, Def (tx K ct) P w K mg base 1 "is_whole" ["value"] [] F_is_whole := fun base => def_mk a_is_whole (PySem.W.mg_of X G a_is_whole.ns) sc_is_whole rfl (fun _ _ _ _ _ _ us hl => match us, hl with | [_], _ => rfl) (fun q W hr tk hp => b_is_whole B  q W hr tk hp)
  have hD_is_between : ∀ base : Heap, Def (tx K ct) P w K mg base 2 "is_between" ["value", "low", "high"] [] F_is_between := fun base => def_mk a_is_between (PySem.W.mg_of X G a_is_between.ns) sc_is_between rfl (fun _ _ _ _ _ _ us hl => match us, hl with | [_, _, _], _ => rfl) (fun q W hr tk hp => b_is_between B (hD_is_whole base) q W hr tk hp)
  have hD_are_counts : ∀ base : Heap, Def (tx K ct) P w K mg base 3 "are_counts" ["items"] [] F_are_counts := fun base => def_mk a_are_counts (PySem.W.mg_of X G a_are_counts.ns) sc_are_counts rfl (fun _ _ _ _ _ _ us hl => match us, hl with | [_], _ => rfl) (fun q W hr tk hp => b_are_counts B (hD_is_between base) q W hr tk hp)
  have hD_is_point : ∀ base : Heap, Def (tx K ct) P w K mg base 4 "is_point" ["many", "value"] [] F_is_point := fun base => def_mk a_is_point (PySem.W.mg_of X G a_is_point.ns) sc_is_point rfl (fun _ _ _ _ _ _ us hl => match us, hl with | [_, _], _ => rfl) (fun q W hr tk hp => b_is_point B (hD_are_counts base) q W hr tk hp)
  have hD_is_form_for : ∀ base : Heap, Def (tx K ct) P w K mg base 4 "is_form_for" ["many", "value"] [] F_is_form_for := fun base => def_mk a_is_form_for (PySem.W.mg_of X G a_is_form_for.ns) sc_is_form_for rfl (fun _ _ _ _ _ _ us hl => match us, hl with | [_, _], _ => rfl) (fun q W hr tk hp => b_is_form_for B (hD_are_counts base) q W hr tk hp)
  have hD_check_number : ∀ base : Heap, Def (tx K ct) P w K mg base 3 "check_number" ["number", "low", "high"] [] F_check_number := fun base => def_mk a_check_number (PySem.W.mg_of X G a_check_number.ns) sc_check_number rfl (fun _ _ _ _ _ _ us hl => match us, hl with | [_, _, _], _ => rfl) (fun q W hr tk hp => b_check_number B (hD_is_between base) q W hr tk hp)
  have hD_check_many : ∀ base : Heap, Def (tx K ct) P w K mg base 4 "check_many" ["many"] [] F_check_many := fun base => def_mk a_check_many (PySem.W.mg_of X G a_check_many.ns) sc_check_many rfl (fun _ _ _ _ _ _ us hl => match us, hl with | [_], _ => rfl) (fun q W hr tk hp => b_check_many B (hD_check_number base) q W hr tk hp)
  have hD_check_point : ∀ base : Heap, Def (tx K ct) P w K mg base 5 "check_point" ["many", "point"] [] F_check_point := fun base => def_mk a_check_point (PySem.W.mg_of X G a_check_point.ns) sc_check_point rfl (fun _ _ _ _ _ _ us hl => match us, hl with | [_, _], _ => rfl) (fun q W hr tk hp => b_check_point B (hD_is_point base) q W hr tk hp)
  have hD_is_form : ∀ base : Heap, Def (tx K ct) P w K mg base 5 "is_form" ["many", "value"] [] F_is_form := fun base => def_mk a_is_form (PySem.W.mg_of X G a_is_form.ns) sc_is_form rfl (fun _ _ _ _ _ _ us hl => match us, hl with | [_, _], _ => rfl) (fun q W hr tk hp => b_is_form B (hD_check_many base) (hD_is_form_for base) q W hr tk hp)
  have hDK_is_form_0 : ∀ base : Heap, DefK (tx K ct) P w K mg base 5 "is_form" ["many", "value"] ["value", "many"] [1, 0] F_is_form := fun base => defK_mk a_is_form (PySem.W.mg_of X G a_is_form.ns) sc_is_form rfl (fun _ _ _ _ _ _ ws hl => match ws, hl with | [_, _], _ => rfl) (fun q W hr tk hp => b_is_form B (hD_check_many base) (hD_is_form_for base) q W hr tk hp)
  have hD_is_any_form : ∀ base : Heap, Def (tx K ct) P w K mg base 5 "is_any_form" ["value"] [] F_is_any_form := fun base => def_mk a_is_any_form (PySem.W.mg_of X G a_is_any_form.ns) sc_is_any_form rfl (fun _ _ _ _ _ _ us hl => match us, hl with | [_], _ => rfl) (fun q W hr tk hp => b_is_any_form B (hD_is_form_for base) q W hr tk hp)
  have hD_check_any_form : ∀ base : Heap, Def (tx K ct) P w K mg base 6 "check_any_form" ["form"] [] F_check_any_form := fun base => def_mk a_check_any_form (PySem.W.mg_of X G a_check_any_form.ns) sc_check_any_form rfl (fun _ _ _ _ _ _ us hl => match us, hl with | [_], _ => rfl) (fun q W hr tk hp => b_check_any_form B (hD_is_any_form base) q W hr tk hp)
  have hD_plain : ∀ base : Heap, Def (tx K ct) P w K mg base 1 "plain" ["many", "number"] [] F_plain := fun base => def_mk a_plain (PySem.W.mg_of X G a_plain.ns) sc_plain rfl (fun _ _ _ _ _ _ us hl => match us, hl with | [_, _], _ => rfl) (fun q W hr tk hp => b_plain B  q W hr tk hp)
  have hD_value_at : ∀ base : Heap, Def (tx K ct) P w K mg base 1 "value_at" ["form", "point"] [] F_value_at := fun base => def_mk a_value_at (PySem.W.mg_of X G a_value_at.ns) sc_value_at rfl (fun _ _ _ _ _ _ us hl => match us, hl with | [_, _], _ => rfl) (fun q W hr tk hp => b_value_at B  q W hr tk hp)
  have hD_form_sum : ∀ base : Heap, Def (tx K ct) P w K mg base 1 "form_sum" ["one", "other"] [] F_form_sum := fun base => def_mk a_form_sum (PySem.W.mg_of X G a_form_sum.ns) sc_form_sum rfl (fun _ _ _ _ _ _ us hl => match us, hl with | [_, _], _ => rfl) (fun q W hr tk hp => b_form_sum B  q W hr tk hp)
  have hD_form_times : ∀ base : Heap, Def (tx K ct) P w K mg base 1 "form_times" ["number", "form"] [] F_form_times := fun base => def_mk a_form_times (PySem.W.mg_of X G a_form_times.ns) sc_form_times rfl (fun _ _ _ _ _ _ us hl => match us, hl with | [_, _], _ => rfl) (fun q W hr tk hp => b_form_times B  q W hr tk hp)
  have hD_form_inserted : ∀ base : Heap, Def (tx K ct) P w K mg base 2 "form_inserted" ["form", "many", "forms"] [] F_form_inserted := fun base => def_mk a_form_inserted (PySem.W.mg_of X G a_form_inserted.ns) sc_form_inserted rfl (fun _ _ _ _ _ _ us hl => match us, hl with | [_, _, _], _ => rfl) (fun q W hr tk hp => b_form_inserted B (hD_plain base) (hD_form_sum base) (hD_form_times base) q W hr tk hp)
  have hD_value : ∀ base : Heap, Def (tx K ct) P w K mg base 7 "value" ["form", "point"] [] F_value := fun base => def_mk a_value (PySem.W.mg_of X G a_value.ns) sc_value rfl (fun _ _ _ _ _ _ us hl => match us, hl with | [_, _], _ => rfl) (fun q W hr tk hp => b_value B (hD_check_any_form base) (hD_check_point base) (hD_value_at base) q W hr tk hp)
  have hDK_value_0 : ∀ base : Heap, DefK (tx K ct) P w K mg base 7 "value" ["form", "point"] ["point", "form"] [1, 0] F_value := fun base => defK_mk a_value (PySem.W.mg_of X G a_value.ns) sc_value rfl (fun _ _ _ _ _ _ ws hl => match ws, hl with | [_, _], _ => rfl) (fun q W hr tk hp => b_value B (hD_check_any_form base) (hD_check_point base) (hD_value_at base) q W hr tk hp)
  have hD_check_forms : ∀ base : Heap, Def (tx K ct) P w K mg base 5 "check_forms" ["many", "forms", "wanted"] [] F_check_forms := fun base => def_mk a_check_forms (PySem.W.mg_of X G a_check_forms.ns) sc_check_forms rfl (fun _ _ _ _ _ _ us hl => match us, hl with | [_, _, _], _ => rfl) (fun q W hr tk hp => b_check_forms B (hD_is_form_for base) q W hr tk hp)
  have hD_inserted : ∀ base : Heap, Def (tx K ct) P w K mg base 7 "inserted" ["form", "many", "forms"] [] F_inserted := fun base => def_mk a_inserted (PySem.W.mg_of X G a_inserted.ns) sc_inserted rfl (fun _ _ _ _ _ _ us hl => match us, hl with | [_, _, _], _ => rfl) (fun q W hr tk hp => b_inserted B (hD_check_any_form base) (hD_check_many base) (hD_check_forms base) (hD_form_inserted base) q W hr tk hp)
  have hDK_inserted_0 : ∀ base : Heap, DefK (tx K ct) P w K mg base 7 "inserted" ["form", "many", "forms"] ["forms", "many", "form"] [2, 1, 0] F_inserted := fun base => defK_mk a_inserted (PySem.W.mg_of X G a_inserted.ns) sc_inserted rfl (fun _ _ _ _ _ _ ws hl => match ws, hl with | [_, _, _], _ => rfl) (fun q W hr tk hp => b_inserted B (hD_check_any_form base) (hD_check_many base) (hD_check_forms base) (hD_form_inserted base) q W hr tk hp)
  have hD__law_hash : ∀ base : Heap, Def (tx K ct) P w K mg base 1 "_law_hash" ["_law_seed", "_law_index"] [] F__law_hash := fun base => def_mk a__law_hash (PySem.W.mg_of X G a__law_hash.ns) sc__law_hash rfl (fun _ _ _ _ _ _ us hl => match us, hl with | [_, _], _ => rfl) (fun q W hr tk hp => b__law_hash B  q W hr tk hp)
  have hD__law_generator : ∀ base : Heap, Def (tx K ct) P w K mg base 1 "_law_generator" ["_law_script", "_law_index"] [] F__law_generator := fun base => def_mk a__law_generator (PySem.W.mg_of X G a__law_generator.ns) sc__law_generator rfl (fun _ _ _ _ _ _ us hl => match us, hl with | [_, _], _ => rfl) (fun q W hr tk hp => b__law_generator B  q W hr tk hp)
  have hD__law_random : ∀ base : Heap, Def (tx K ct) P w K mg base 2 "_law_random" ["_law_generator_here", "_law_bound"] [] F__law_random := fun base => def_mk a__law_random (PySem.W.mg_of X G a__law_random.ns) sc__law_random rfl (fun _ _ _ _ _ _ us hl => match us, hl with | [_, _], _ => rfl) (fun q W hr tk hp => b__law_random B (hD__law_hash base) q W hr tk hp)
  have hD__law_number : ∀ base : Heap, Def (tx K ct) P w K mg base 3 "_law_number" ["_law_generator_here"] [] F__law_number := fun base => def_mk a__law_number (PySem.W.mg_of X G a__law_number.ns) sc__law_number rfl (fun _ _ _ _ _ _ us hl => match us, hl with | [_], _ => rfl) (fun q W hr tk hp => b__law_number B (hD__law_random base) q W hr tk hp)
  have hD__law_form : ∀ base : Heap, Def (tx K ct) P w K mg base 4 "_law_form" ["_law_generator_here", "_law_many"] [] F__law_form := fun base => def_mk a__law_form (PySem.W.mg_of X G a__law_form.ns) sc__law_form rfl (fun _ _ _ _ _ _ us hl => match us, hl with | [_, _], _ => rfl) (fun q W hr tk hp => b__law_form B (hD__law_number base) q W hr tk hp)
  have hD__law_value : ∀ base : Heap, Def (tx K ct) P w K mg base 1 "_law_value" ["_law_form_here", "_law_point"] [] F__law_value := fun base => def_mk a__law_value (PySem.W.mg_of X G a__law_value.ns) sc__law_value rfl (fun _ _ _ _ _ _ us hl => match us, hl with | [_, _], _ => rfl) (fun q W hr tk hp => b__law_value B  q W hr tk hp)
  have hD__law_good : ∀ base : Heap, Def (tx K ct) P w K mg base 8 "_law_good" ["_law_generator_here"] [] F__law_good := fun base => def_mk a__law_good (PySem.W.mg_of X G a__law_good.ns) sc__law_good rfl (fun _ _ _ _ _ _ us hl => match us, hl with | [_], _ => rfl) (fun q W hr tk hp => b__law_good B (hD__law_random base) (hD__law_form base) (hD_inserted base) (hD_is_form base) (hDK_inserted_0 base) (hD__law_value base) (hD_value base) (hDK_value_0 base) (hDK_is_form_0 base) q W hr tk hp)
  have hD__law_caught : ∀ base : Heap, Def (tx K ct) P w K mg base 8 "_law_caught" ["_law_which", "_law_given"] [] F__law_caught := fun base => def_mk a__law_caught (PySem.W.mg_of X G a__law_caught.ns) sc__law_caught rfl (fun _ _ _ _ _ _ us hl => match us, hl with | [_, _], _ => rfl) (fun q W hr tk hp => b__law_caught B (hD_is_form base) (hD_value base) (hD_inserted base) q W hr tk hp)
  have hD__law_only : ∀ base : Heap, Def (tx K ct) P w K mg base 1 "_law_only" ["_law_place", "_law_bad"] [] F__law_only := fun base => def_mk a__law_only (PySem.W.mg_of X G a__law_only.ns) sc__law_only rfl (fun _ _ _ _ _ _ us hl => match us, hl with | [_, _], _ => rfl) (fun q W hr tk hp => b__law_only B  q W hr tk hp)
  have hD__law_refused : ∀ base : Heap, Def (tx K ct) P w K mg base 9 "_law_refused" [] [] F__law_refused := fun base => def_mk a__law_refused (PySem.W.mg_of X G a__law_refused.ns) sc__law_refused rfl (fun _ _ _ _ _ _ us hl => match us, hl with | [], _ => rfl) (fun q W hr tk hp => b__law_refused B (hD__law_caught base) (hD__law_only base) q W hr tk hp)
  have e := (PySem.W.mg_of X G a_law.ns).symm.trans hl
  cases e
  obtain ⟨fd, D⟩ := a_law.fn
  refine ⟨tx K ct, fd, rfl, fun s u => D.bindsA (ps := ["_law_script"]) (fun _ _ _ _ _ _ us hl => match us, hl with | [_], _ => rfl) s [u] rfl, fun base _ _ => ?_⟩
  exact fn_mk2 (T := tx K ct) D sc_law fun q W hr tk hp => b_law B (hD__law_good base) (hD__law_generator base) (hD_inserted base) (hD_value base) (hD__law_refused base) q W hr tk hp
end FL

set_option Elab.async false
set_option linter.all false
set_option maxRecDepth 100000
set_option maxHeartbeats 4000000
namespace FL
open PySem PySem.Spec PyProof.Rows L2
def ctF (C0 C1 C2 C3 C4 : Addr) : Nat → Addr
  | 0 => C0
  | 1 => C1
  | 2 => C2
  | 3 => C3
  | _ => C4
theorem lt5 {c : Nat} (h : c < 5) : c = 0 ∨ c = 1 ∨ c = 2 ∨ c = 3 ∨ c = 4 := by omega
theorem tb_mk {P : Program} {K : PySem.W.Frag} {mg : Str → Option Value} {h : Heap} {C0 C1 C2 C3 C4 : Addr} {tM : Tok}
    {qual1 file1 : Str} {p11 p21 pd1 q1_1 q2_1 q3_1 q4_1 q5_1 q6_1 q7_1 q8_1 q9_1 qa_1 : Pos} {Td1 cda1 cc1 fI1 : Addr} {oc1 kV1 doc1 pm1 ct1 To1 ccl1 cl1 : Value} {od1 an1 Tt1 cdd1 cld1 : Option Addr} {osl1 Ts1 ccs1 csl1 : Array (Option Value)} {nT1 : Nat} {vs1 : Array Value} {tf1 : Tok}
    {qual2 file2 : Str} {p12 p22 pd2 q1_2 q2_2 q3_2 q4_2 q5_2 q6_2 q7_2 q8_2 q9_2 qa_2 : Pos} {Td2 cda2 cc2 fI2 : Addr} {oc2 kV2 doc2 pm2 ct2 To2 ccl2 cl2 : Value} {od2 an2 Tt2 cdd2 cld2 : Option Addr} {osl2 Ts2 ccs2 csl2 : Array (Option Value)} {nT2 : Nat} {vs2 : Array Value} {tf2 : Tok}
    {qual3 file3 : Str} {p13 p23 pd3 q1_3 q2_3 q3_3 q4_3 q5_3 q6_3 q7_3 q8_3 q9_3 qa_3 : Pos} {Td3 cda3 cc3 fI3 : Addr} {oc3 kV3 doc3 pm3 ct3 To3 ccl3 cl3 : Value} {od3 an3 Tt3 cdd3 cld3 : Option Addr} {osl3 Ts3 ccs3 csl3 : Array (Option Value)} {nT3 : Nat} {vs3 : Array Value} {tf3 : Tok}
    {qual4 file4 : Str} {p14 p24 pd4 q1_4 q2_4 q3_4 q4_4 q5_4 q6_4 q7_4 q8_4 q9_4 qa_4 : Pos} {Td4 cda4 cc4 fI4 : Addr} {oc4 kV4 doc4 pm4 ct4 To4 ccl4 cl4 : Value} {od4 an4 Tt4 cdd4 cld4 : Option Addr} {osl4 Ts4 ccs4 csl4 : Array (Option Value)} {nT4 : Nat} {vs4 : Array Value} {tf4 : Tok}
    {nm1 qq1 : Str} {N1 : Addr} {bs1 bm1 sub1 : List Value} {sn1 : List Str} {ab1 : Bool} {col1 : Option Bool} {dd1 : Option Addr} {k0_1 k1_1 k2_1 k3_1 k5_1 : Option Value}
    {nm2 qq2 : Str} {N2 : Addr} {bs2 bm2 sub2 : List Value} {sn2 : List Str} {ab2 : Bool} {col2 : Option Bool} {dd2 : Option Addr} {k0_2 k1_2 k2_2 k3_2 k5_2 : Option Value}
    {nm3 qq3 : Str} {N3 : Addr} {bs3 bm3 sub3 : List Value} {sn3 : List Str} {ab3 : Bool} {col3 : Option Bool} {dd3 : Option Addr} {k0_3 k1_3 k2_3 k3_3 k5_3 : Option Value}
    {nm4 qq4 : Str} {N4 : Addr} {bs4 bm4 sub4 : List Value} {sn4 : List Str} {ab4 : Bool} {col4 : Option Bool} {dd4 : Option Addr} {k0_4 k1_4 k2_4 k3_4 k5_4 : Option Value}
    (X : K.In h) (G : h.Ns mainGlobals mg)
    (aC0 : PySem.W.nsIn K mainGlobals "LoopError" = some (some (.ref C0)))
    (aC1 : PySem.W.nsIn K mainGlobals "InvalidNumber" = some (some (.ref C1)))
    (aC2 : PySem.W.nsIn K mainGlobals "InvalidForm" = some (some (.ref C2)))
    (aC3 : PySem.W.nsIn K mainGlobals "InvalidPoint" = some (some (.ref C3)))
    (aC4 : PySem.W.nsIn K mainGlobals "InvalidList" = some (some (.ref C4)))
    (aM : PySem.W.nsIn K mainGlobals "MOST_UNKNOWNS" = some (some (.int 3 tM)))
    (g_bool : PySem.W.nsIn K mainGlobals "bool" = some none)
    (g_int : PySem.W.nsIn K mainGlobals "int" = some none)
    (g_isinstance : PySem.W.nsIn K mainGlobals "isinstance" = some none)
    (g_len : PySem.W.nsIn K mainGlobals "len" = some none)
    (g_list : PySem.W.nsIn K mainGlobals "list" = some none)
    (g_max : PySem.W.nsIn K mainGlobals "max" = some none)
    (g_range : PySem.W.nsIn K mainGlobals "range" = some none)
    (g_repr : PySem.W.nsIn K mainGlobals "repr" = some none)
    (g_sum : PySem.W.nsIn K mainGlobals "sum" = some none)
    (g_super : PySem.W.nsIn K mainGlobals "super" = some none)
    (g_tuple : PySem.W.nsIn K mainGlobals "tuple" = some none)
    (g_zip : PySem.W.nsIn K mainGlobals "zip" = some none)
    (kt0_0 : PySem.W.kitOne K (.type "NoneType") (.ref C0) = some false)
    (kt0_1 : PySem.W.kitOne K (.type "NoneType") (.ref C1) = some false)
    (kt0_2 : PySem.W.kitOne K (.type "NoneType") (.ref C2) = some false)
    (kt0_3 : PySem.W.kitOne K (.type "NoneType") (.ref C3) = some false)
    (kt0_4 : PySem.W.kitOne K (.type "NoneType") (.ref C4) = some false)
    (kt1_0 : PySem.W.kitOne K (.type "bool") (.ref C0) = some false)
    (kt1_1 : PySem.W.kitOne K (.type "bool") (.ref C1) = some false)
    (kt1_2 : PySem.W.kitOne K (.type "bool") (.ref C2) = some false)
    (kt1_3 : PySem.W.kitOne K (.type "bool") (.ref C3) = some false)
    (kt1_4 : PySem.W.kitOne K (.type "bool") (.ref C4) = some false)
    (kt2_0 : PySem.W.kitOne K (.type "int") (.ref C0) = some false)
    (kt2_1 : PySem.W.kitOne K (.type "int") (.ref C1) = some false)
    (kt2_2 : PySem.W.kitOne K (.type "int") (.ref C2) = some false)
    (kt2_3 : PySem.W.kitOne K (.type "int") (.ref C3) = some false)
    (kt2_4 : PySem.W.kitOne K (.type "int") (.ref C4) = some false)
    (kt3_0 : PySem.W.kitOne K (.type "str") (.ref C0) = some false)
    (kt3_1 : PySem.W.kitOne K (.type "str") (.ref C1) = some false)
    (kt3_2 : PySem.W.kitOne K (.type "str") (.ref C2) = some false)
    (kt3_3 : PySem.W.kitOne K (.type "str") (.ref C3) = some false)
    (kt3_4 : PySem.W.kitOne K (.type "str") (.ref C4) = some false)
    (kt4_0 : PySem.W.kitOne K (.type "tuple") (.ref C0) = some false)
    (kt4_1 : PySem.W.kitOne K (.type "tuple") (.ref C1) = some false)
    (kt4_2 : PySem.W.kitOne K (.type "tuple") (.ref C2) = some false)
    (kt4_3 : PySem.W.kitOne K (.type "tuple") (.ref C3) = some false)
    (kt4_4 : PySem.W.kitOne K (.type "tuple") (.ref C4) = some false)
    (kt5_0 : PySem.W.kitOne K (.type "list") (.ref C0) = some false)
    (kt5_1 : PySem.W.kitOne K (.type "list") (.ref C1) = some false)
    (kt5_2 : PySem.W.kitOne K (.type "list") (.ref C2) = some false)
    (kt5_3 : PySem.W.kitOne K (.type "list") (.ref C3) = some false)
    (kt5_4 : PySem.W.kitOne K (.type "list") (.ref C4) = some false)
    (ko0_0 : PySem.W.kitOne K (.ref C0) (.ref C0) = some true)
    (ko0_1 : PySem.W.kitOne K (.ref C0) (.ref C1) = some false)
    (ko0_2 : PySem.W.kitOne K (.ref C0) (.ref C2) = some false)
    (ko0_3 : PySem.W.kitOne K (.ref C0) (.ref C3) = some false)
    (ko0_4 : PySem.W.kitOne K (.ref C0) (.ref C4) = some false)
    (ko1_0 : PySem.W.kitOne K (.ref C1) (.ref C0) = some true)
    (ko1_1 : PySem.W.kitOne K (.ref C1) (.ref C1) = some true)
    (ko1_2 : PySem.W.kitOne K (.ref C1) (.ref C2) = some false)
    (ko1_3 : PySem.W.kitOne K (.ref C1) (.ref C3) = some false)
    (ko1_4 : PySem.W.kitOne K (.ref C1) (.ref C4) = some false)
    (ko2_0 : PySem.W.kitOne K (.ref C2) (.ref C0) = some true)
    (ko2_1 : PySem.W.kitOne K (.ref C2) (.ref C1) = some false)
    (ko2_2 : PySem.W.kitOne K (.ref C2) (.ref C2) = some true)
    (ko2_3 : PySem.W.kitOne K (.ref C2) (.ref C3) = some false)
    (ko2_4 : PySem.W.kitOne K (.ref C2) (.ref C4) = some false)
    (ko3_0 : PySem.W.kitOne K (.ref C3) (.ref C0) = some true)
    (ko3_1 : PySem.W.kitOne K (.ref C3) (.ref C1) = some false)
    (ko3_2 : PySem.W.kitOne K (.ref C3) (.ref C2) = some false)
    (ko3_3 : PySem.W.kitOne K (.ref C3) (.ref C3) = some true)
    (ko3_4 : PySem.W.kitOne K (.ref C3) (.ref C4) = some false)
    (ko4_0 : PySem.W.kitOne K (.ref C4) (.ref C0) = some true)
    (ko4_1 : PySem.W.kitOne K (.ref C4) (.ref C1) = some false)
    (ko4_2 : PySem.W.kitOne K (.ref C4) (.ref C2) = some false)
    (ko4_3 : PySem.W.kitOne K (.ref C4) (.ref C3) = some false)
    (ko4_4 : PySem.W.kitOne K (.ref C4) (.ref C4) = some true)
    (xm0_0 : PySem.W.exmOne K (.ref C0) (.ref C0) = some true)
    (xm0_1 : PySem.W.exmOne K (.ref C0) (.ref C1) = some false)
    (xm0_2 : PySem.W.exmOne K (.ref C0) (.ref C2) = some false)
    (xm0_3 : PySem.W.exmOne K (.ref C0) (.ref C3) = some false)
    (xm0_4 : PySem.W.exmOne K (.ref C0) (.ref C4) = some false)
    (xm1_0 : PySem.W.exmOne K (.ref C1) (.ref C0) = some true)
    (xm1_1 : PySem.W.exmOne K (.ref C1) (.ref C1) = some true)
    (xm1_2 : PySem.W.exmOne K (.ref C1) (.ref C2) = some false)
    (xm1_3 : PySem.W.exmOne K (.ref C1) (.ref C3) = some false)
    (xm1_4 : PySem.W.exmOne K (.ref C1) (.ref C4) = some false)
    (xm2_0 : PySem.W.exmOne K (.ref C2) (.ref C0) = some true)
    (xm2_1 : PySem.W.exmOne K (.ref C2) (.ref C1) = some false)
    (xm2_2 : PySem.W.exmOne K (.ref C2) (.ref C2) = some true)
    (xm2_3 : PySem.W.exmOne K (.ref C2) (.ref C3) = some false)
    (xm2_4 : PySem.W.exmOne K (.ref C2) (.ref C4) = some false)
    (xm3_0 : PySem.W.exmOne K (.ref C3) (.ref C0) = some true)
    (xm3_1 : PySem.W.exmOne K (.ref C3) (.ref C1) = some false)
    (xm3_2 : PySem.W.exmOne K (.ref C3) (.ref C2) = some false)
    (xm3_3 : PySem.W.exmOne K (.ref C3) (.ref C3) = some true)
    (xm3_4 : PySem.W.exmOne K (.ref C3) (.ref C4) = some false)
    (xm4_0 : PySem.W.exmOne K (.ref C4) (.ref C0) = some true)
    (xm4_1 : PySem.W.exmOne K (.ref C4) (.ref C1) = some false)
    (xm4_2 : PySem.W.exmOne K (.ref C4) (.ref C2) = some false)
    (xm4_3 : PySem.W.exmOne K (.ref C4) (.ref C3) = some false)
    (xm4_4 : PySem.W.exmOne K (.ref C4) (.ref C4) = some true)
    (xhn : PySem.W.specialIn K (.builtin "object.__class__") "__get__" = some (some (.builtin "getset_descriptor.__get__")))
    (xht : PySem.W.takesIn K (.builtin "object.__class__") = some true)
    (xga0 : PySem.W.findIn K (.ref C0) "__getattribute__" = some (some (.builtin "BaseException.__getattribute__")))
    (xgg0 : PySem.W.findIn K (.ref C0) "__getattr__" = some none)
    (xex0 : PySem.W.subIn K (.ref C0) (.type "BaseException") = some true)
    (xhd0 : PySem.W.hasDictIn K C0 = true)
    (xcl0 : (PySem.W.clsIn K C0).isSome = true)
    (xha0 : PySem.W.findIn K (.ref C0) "__class__" = some (some (.builtin "object.__class__")))
    (xhm0 : PySem.W.mroIn K C0 (.type "object") = some true)
    (xnv0 : PySem.W.findIn K (.ref C0) "value" = some none)
    (xga1 : PySem.W.findIn K (.ref C1) "__getattribute__" = some (some (.builtin "BaseException.__getattribute__")))
    (xgg1 : PySem.W.findIn K (.ref C1) "__getattr__" = some none)
    (xex1 : PySem.W.subIn K (.ref C1) (.type "BaseException") = some true)
    (xhd1 : PySem.W.hasDictIn K C1 = true)
    (xcl1 : (PySem.W.clsIn K C1).isSome = true)
    (xha1 : PySem.W.findIn K (.ref C1) "__class__" = some (some (.builtin "object.__class__")))
    (xhm1 : PySem.W.mroIn K C1 (.type "object") = some true)
    (xnv1 : PySem.W.findIn K (.ref C1) "value" = some none)
    (xga2 : PySem.W.findIn K (.ref C2) "__getattribute__" = some (some (.builtin "BaseException.__getattribute__")))
    (xgg2 : PySem.W.findIn K (.ref C2) "__getattr__" = some none)
    (xex2 : PySem.W.subIn K (.ref C2) (.type "BaseException") = some true)
    (xhd2 : PySem.W.hasDictIn K C2 = true)
    (xcl2 : (PySem.W.clsIn K C2).isSome = true)
    (xha2 : PySem.W.findIn K (.ref C2) "__class__" = some (some (.builtin "object.__class__")))
    (xhm2 : PySem.W.mroIn K C2 (.type "object") = some true)
    (xnv2 : PySem.W.findIn K (.ref C2) "value" = some none)
    (xga3 : PySem.W.findIn K (.ref C3) "__getattribute__" = some (some (.builtin "BaseException.__getattribute__")))
    (xgg3 : PySem.W.findIn K (.ref C3) "__getattr__" = some none)
    (xex3 : PySem.W.subIn K (.ref C3) (.type "BaseException") = some true)
    (xhd3 : PySem.W.hasDictIn K C3 = true)
    (xcl3 : (PySem.W.clsIn K C3).isSome = true)
    (xha3 : PySem.W.findIn K (.ref C3) "__class__" = some (some (.builtin "object.__class__")))
    (xhm3 : PySem.W.mroIn K C3 (.type "object") = some true)
    (xnv3 : PySem.W.findIn K (.ref C3) "value" = some none)
    (xga4 : PySem.W.findIn K (.ref C4) "__getattribute__" = some (some (.builtin "BaseException.__getattribute__")))
    (xgg4 : PySem.W.findIn K (.ref C4) "__getattr__" = some none)
    (xex4 : PySem.W.subIn K (.ref C4) (.type "BaseException") = some true)
    (xhd4 : PySem.W.hasDictIn K C4 = true)
    (xcl4 : (PySem.W.clsIn K C4).isSome = true)
    (xha4 : PySem.W.findIn K (.ref C4) "__class__" = some (some (.builtin "object.__class__")))
    (xhm4 : PySem.W.mroIn K C4 (.type "object") = some true)
    (xnv4 : PySem.W.findIn K (.ref C4) "value" = some none)
    (ent : PySem.W.nsIn K PySem.cStatics "thirdparty.any" = some none)
    (esa1 : PySem.W.findIn K (.ref C1) "__setattr__" = some (some (.builtin "object.__setattr__")))
    (eiC1 : PySem.W.findIn K (.ref C1) "__init__" = some (some (.ref fI1)))
    (etC1 : PySem.W.typeIn K (.ref fI1) = some (.type "function"))
    (ekC1 : PySem.W.keepIn K (.ref C1) = true)
    (ety1 : PySem.W.typeIn K (.ref C1) = some (.type "type"))
    (exi1 : PySem.W.excInitIn K C1 veB "ValueError.__new__" = true)
    (esu1 : PySem.W.ks_superIn K C1 C1 "__init__" = some (some (.builtin "ValueError.__init__")))
    (esV1 : PySem.W.subIn K (.ref C1) (.type "ValueError") = some true)
    (emC1 : PySem.W.mroIn K C1 (.ref C1) = some true)
    (esa2 : PySem.W.findIn K (.ref C2) "__setattr__" = some (some (.builtin "object.__setattr__")))
    (eiC2 : PySem.W.findIn K (.ref C2) "__init__" = some (some (.ref fI2)))
    (etC2 : PySem.W.typeIn K (.ref fI2) = some (.type "function"))
    (ekC2 : PySem.W.keepIn K (.ref C2) = true)
    (ety2 : PySem.W.typeIn K (.ref C2) = some (.type "type"))
    (exi2 : PySem.W.excInitIn K C2 veB "ValueError.__new__" = true)
    (esu2 : PySem.W.ks_superIn K C2 C2 "__init__" = some (some (.builtin "ValueError.__init__")))
    (esV2 : PySem.W.subIn K (.ref C2) (.type "ValueError") = some true)
    (emC2 : PySem.W.mroIn K C2 (.ref C2) = some true)
    (esa3 : PySem.W.findIn K (.ref C3) "__setattr__" = some (some (.builtin "object.__setattr__")))
    (eiC3 : PySem.W.findIn K (.ref C3) "__init__" = some (some (.ref fI3)))
    (etC3 : PySem.W.typeIn K (.ref fI3) = some (.type "function"))
    (ekC3 : PySem.W.keepIn K (.ref C3) = true)
    (ety3 : PySem.W.typeIn K (.ref C3) = some (.type "type"))
    (exi3 : PySem.W.excInitIn K C3 veB "ValueError.__new__" = true)
    (esu3 : PySem.W.ks_superIn K C3 C3 "__init__" = some (some (.builtin "ValueError.__init__")))
    (esV3 : PySem.W.subIn K (.ref C3) (.type "ValueError") = some true)
    (emC3 : PySem.W.mroIn K C3 (.ref C3) = some true)
    (esa4 : PySem.W.findIn K (.ref C4) "__setattr__" = some (some (.builtin "object.__setattr__")))
    (eiC4 : PySem.W.findIn K (.ref C4) "__init__" = some (some (.ref fI4)))
    (etC4 : PySem.W.typeIn K (.ref fI4) = some (.type "function"))
    (ekC4 : PySem.W.keepIn K (.ref C4) = true)
    (ety4 : PySem.W.typeIn K (.ref C4) = some (.type "type"))
    (exi4 : PySem.W.excInitIn K C4 veB "ValueError.__new__" = true)
    (esu4 : PySem.W.ks_superIn K C4 C4 "__init__" = some (some (.builtin "ValueError.__init__")))
    (esV4 : PySem.W.subIn K (.ref C4) (.type "ValueError") = some true)
    (emC4 : PySem.W.mroIn K C4 (.ref C4) = some true)
    (ec1 : K.lookup C1 = some (PySem.excClassObj nm1 qq1 C1 N1 bs1 bm1 true sn1 sub1 ab1 col1 dd1 k0_1 k1_1 k2_1 k3_1 k5_1 "ValueError.__new__"))
    (er1 : PySem.HandSPX.refsVE bm1 = true)
    (fl1 : K.lookup fI1 = some ⟨oc1, od1, .func (PySem.W.ksFn "__init__" qual1 (iA p11 p21 pd1) (iB q1_1 q2_1 q3_1 q4_1 q5_1 q6_1 q7_1 q8_1 q9_1 qa_1) iS (.ref Td1) kV1 doc1 pm1 an1 (.ref cda1) ct1 cc1), osl1⟩)
    (fc1 : PySem.W.codeIn K (.ref cda1) qual1 = true)
    (fT1 : K.lookup Td1 = some ⟨To1, Tt1, .seq #[.none] nT1, Ts1⟩)
    (fp1 : (q3_1.endLine == q5_1.line) = true)
    (fd1 : K.lookup cda1 = some ⟨ccl1, cdd1, .fields vs1, ccs1⟩)
    (fv1 : vs1[2]? = some (.str file1 tf1))
    (ff1 : (P.main.file == file1) = true)
    (fk1 : K.lookup cc1 = some ⟨cl1, cld1, .cell (some (.ref C1)), csl1⟩)
    (ec2 : K.lookup C2 = some (PySem.excClassObj nm2 qq2 C2 N2 bs2 bm2 true sn2 sub2 ab2 col2 dd2 k0_2 k1_2 k2_2 k3_2 k5_2 "ValueError.__new__"))
    (er2 : PySem.HandSPX.refsVE bm2 = true)
    (fl2 : K.lookup fI2 = some ⟨oc2, od2, .func (PySem.W.ksFn "__init__" qual2 (iA p12 p22 pd2) (iB q1_2 q2_2 q3_2 q4_2 q5_2 q6_2 q7_2 q8_2 q9_2 qa_2) iS (.ref Td2) kV2 doc2 pm2 an2 (.ref cda2) ct2 cc2), osl2⟩)
    (fc2 : PySem.W.codeIn K (.ref cda2) qual2 = true)
    (fT2 : K.lookup Td2 = some ⟨To2, Tt2, .seq #[.none] nT2, Ts2⟩)
    (fp2 : (q3_2.endLine == q5_2.line) = true)
    (fd2 : K.lookup cda2 = some ⟨ccl2, cdd2, .fields vs2, ccs2⟩)
    (fv2 : vs2[2]? = some (.str file2 tf2))
    (ff2 : (P.main.file == file2) = true)
    (fk2 : K.lookup cc2 = some ⟨cl2, cld2, .cell (some (.ref C2)), csl2⟩)
    (ec3 : K.lookup C3 = some (PySem.excClassObj nm3 qq3 C3 N3 bs3 bm3 true sn3 sub3 ab3 col3 dd3 k0_3 k1_3 k2_3 k3_3 k5_3 "ValueError.__new__"))
    (er3 : PySem.HandSPX.refsVE bm3 = true)
    (fl3 : K.lookup fI3 = some ⟨oc3, od3, .func (PySem.W.ksFn "__init__" qual3 (iA p13 p23 pd3) (iB q1_3 q2_3 q3_3 q4_3 q5_3 q6_3 q7_3 q8_3 q9_3 qa_3) iS (.ref Td3) kV3 doc3 pm3 an3 (.ref cda3) ct3 cc3), osl3⟩)
    (fc3 : PySem.W.codeIn K (.ref cda3) qual3 = true)
    (fT3 : K.lookup Td3 = some ⟨To3, Tt3, .seq #[.none] nT3, Ts3⟩)
    (fp3 : (q3_3.endLine == q5_3.line) = true)
    (fd3 : K.lookup cda3 = some ⟨ccl3, cdd3, .fields vs3, ccs3⟩)
    (fv3 : vs3[2]? = some (.str file3 tf3))
    (ff3 : (P.main.file == file3) = true)
    (fk3 : K.lookup cc3 = some ⟨cl3, cld3, .cell (some (.ref C3)), csl3⟩)
    (ec4 : K.lookup C4 = some (PySem.excClassObj nm4 qq4 C4 N4 bs4 bm4 true sn4 sub4 ab4 col4 dd4 k0_4 k1_4 k2_4 k3_4 k5_4 "ValueError.__new__"))
    (er4 : PySem.HandSPX.refsVE bm4 = true)
    (fl4 : K.lookup fI4 = some ⟨oc4, od4, .func (PySem.W.ksFn "__init__" qual4 (iA p14 p24 pd4) (iB q1_4 q2_4 q3_4 q4_4 q5_4 q6_4 q7_4 q8_4 q9_4 qa_4) iS (.ref Td4) kV4 doc4 pm4 an4 (.ref cda4) ct4 cc4), osl4⟩)
    (fc4 : PySem.W.codeIn K (.ref cda4) qual4 = true)
    (fT4 : K.lookup Td4 = some ⟨To4, Tt4, .seq #[.none] nT4, Ts4⟩)
    (fp4 : (q3_4.endLine == q5_4.line) = true)
    (fd4 : K.lookup cda4 = some ⟨ccl4, cdd4, .fields vs4, ccs4⟩)
    (fv4 : vs4[2]? = some (.str file4 tf4))
    (ff4 : (P.main.file == file4) = true)
    (fk4 : K.lookup cc4 = some ⟨cl4, cld4, .cell (some (.ref C4)), csl4⟩)
    (etop : (P.main.scope.names.lookup ("super" : Str)).isSome = false)
    : Tb P K mg (ctF C0 C1 C2 C3 C4) := by
  have kit : ∀ c d, c < 5 → d < 5 → PySem.W.kitOne K (.ref (ctF C0 C1 C2 C3 C4 c)) (.ref (ctF C0 C1 C2 C3 C4 d)) = some (subB c d) := fun c d hc hd => by
    rcases lt5 hc with rfl | rfl | rfl | rfl | rfl <;> rcases lt5 hd with rfl | rfl | rfl | rfl | rfl <;> assumption
  have exm : ∀ c d, c < 5 → d < 5 → PySem.W.exmOne K (.ref (ctF C0 C1 C2 C3 C4 c)) (.ref (ctF C0 C1 C2 C3 C4 d)) = some (subB c d) := fun c d hc hd => by
    rcases lt5 hc with rfl | rfl | rfl | rfl | rfl <;> rcases lt5 hd with rfl | rfl | rfl | rfl | rfl <;> assumption
  refine ⟨⟨fun t ht c hc => ?_, fun c d hc hd => kit c d hc hd, (fun c hc z => nomatch z), (fun c hc z => nomatch z)⟩, ⟨fun c hc => ?_, fun c d hc hd => kit c d (of_decide_eq_true hc) (of_decide_eq_true hd), fun c d hc hd => exm c d (of_decide_eq_true hc) (of_decide_eq_true hd)⟩, PySem.W.mg_none_of X G g_bool, PySem.W.mg_none_of X G g_int, PySem.W.mg_none_of X G g_isinstance, PySem.W.mg_none_of X G g_len, PySem.W.mg_none_of X G g_list, PySem.W.mg_none_of X G g_max, PySem.W.mg_none_of X G g_range, PySem.W.mg_none_of X G g_repr, PySem.W.mg_none_of X G g_sum, PySem.W.mg_none_of X G g_super, PySem.W.mg_none_of X G g_tuple, PySem.W.mg_none_of X G g_zip, ⟨tM, PySem.W.mg_of X G aM⟩, PySem.W.mg_of X G aC0, PySem.W.mg_of X G aC1, PySem.W.mg_of X G aC2, PySem.W.mg_of X G aC3, PySem.W.mg_of X G aC4, ?_, ?_, ?_, ?_⟩
  · have m : t = "NoneType" ∨ t = "bool" ∨ t = "int" ∨ t = "str" ∨ t = "tuple" ∨ t = "list" := by simpa [knownT] using ht
    rcases m with rfl | rfl | rfl | rfl | rfl | rfl <;> rcases lt5 hc with rfl | rfl | rfl | rfl | rfl <;> assumption
  · rcases lt5 (of_decide_eq_true hc) with rfl | rfl | rfl | rfl | rfl
    · exact ⟨xga0, xgg0, xex0, xhd0, xcl0, xha0, xhn, xht, xhm0, xnv0⟩
    · exact ⟨xga1, xgg1, xex1, xhd1, xcl1, xha1, xhn, xht, xhm1, xnv1⟩
    · exact ⟨xga2, xgg2, xex2, xhd2, xcl2, xha2, xhn, xht, xhm2, xnv2⟩
    · exact ⟨xga3, xgg3, xex3, xhd3, xcl3, xha3, xhn, xht, xhm3, xnv3⟩
    · exact ⟨xga4, xgg4, xex4, xhd4, xcl4, xha4, xhn, xht, xhm4, xnv4⟩
  · exact ⟨fI1, ⟨_, _, _, _, _, _, _, _, _, _, _, _, _, _, _, ec1, er1⟩, esa1, xga1, xgg1, xnv1, eiC1, etC1, ekC1, xex1, ety1, xhd1, exi1, esu1, esV1, ent, emC1, ⟨_, _, _, _, _, _, _, _, _, _, _, _, _, _, _, _, _, _, _, _, _, _, _, _, _, _, _, _, _, _, _, _, _, _, _, _, fl1, fc1, fT1, rfl, fp1, fd1, fv1, ff1, fk1⟩, etop⟩
  · exact ⟨fI2, ⟨_, _, _, _, _, _, _, _, _, _, _, _, _, _, _, ec2, er2⟩, esa2, xga2, xgg2, xnv2, eiC2, etC2, ekC2, xex2, ety2, xhd2, exi2, esu2, esV2, ent, emC2, ⟨_, _, _, _, _, _, _, _, _, _, _, _, _, _, _, _, _, _, _, _, _, _, _, _, _, _, _, _, _, _, _, _, _, _, _, _, fl2, fc2, fT2, rfl, fp2, fd2, fv2, ff2, fk2⟩, etop⟩
  · exact ⟨fI3, ⟨_, _, _, _, _, _, _, _, _, _, _, _, _, _, _, ec3, er3⟩, esa3, xga3, xgg3, xnv3, eiC3, etC3, ekC3, xex3, ety3, xhd3, exi3, esu3, esV3, ent, emC3, ⟨_, _, _, _, _, _, _, _, _, _, _, _, _, _, _, _, _, _, _, _, _, _, _, _, _, _, _, _, _, _, _, _, _, _, _, _, fl3, fc3, fT3, rfl, fp3, fd3, fv3, ff3, fk3⟩, etop⟩
  · exact ⟨fI4, ⟨_, _, _, _, _, _, _, _, _, _, _, _, _, _, _, ec4, er4⟩, esa4, xga4, xgg4, xnv4, eiC4, etC4, ekC4, xex4, ety4, xhd4, exi4, esu4, esV4, ent, emC4, ⟨_, _, _, _, _, _, _, _, _, _, _, _, _, _, _, _, _, _, _, _, _, _, _, _, _, _, _, _, _, _, _, _, _, _, _, _, fl4, fc4, fT4, rfl, fp4, fd4, fv4, ff4, fk4⟩, etop⟩
end FL

set_option Elab.async false
set_option linter.all false
open PySem PySem.W PyProof.Rows in
set_option maxRecDepth 100000 in
set_option maxHeartbeats 0 in
theorem PySem.Challenge.cw_openloops_k01_forms_at_points_holds : PySem.Challenge.rw_openloops_k01_forms_at_points.Holds := by
  w_on; o_law; k_head; (case hw => w_witness2)
  k_fill
  refine FL.walk_go (j := 10) (n := 63) (p := "_law_script") (l := PySem.Challenge.rw_openloops_k01_forms_at_points) rfl (by decide) rfl ⟨⟨rfl, by decide, by decide⟩, rfl⟩ (fun w h Y => PySem.W.kIn_of Y) FL.law_ok ?F
  case F =>
    intro w mg fa h KX G hmg
    refine' FL.law_fin KX G (FL.tb_mk KX G ?aC0 ?aC1 ?aC2 ?aC3 ?aC4 ?aM ?g_bool ?g_int ?g_isinstance ?g_len ?g_list ?g_max ?g_range ?g_repr ?g_sum ?g_super ?g_tuple ?g_zip ?kt0_0 ?kt0_1 ?kt0_2 ?kt0_3 ?kt0_4 ?kt1_0 ?kt1_1 ?kt1_2 ?kt1_3 ?kt1_4 ?kt2_0 ?kt2_1 ?kt2_2 ?kt2_3 ?kt2_4 ?kt3_0 ?kt3_1 ?kt3_2 ?kt3_3 ?kt3_4 ?kt4_0 ?kt4_1 ?kt4_2 ?kt4_3 ?kt4_4 ?kt5_0 ?kt5_1 ?kt5_2 ?kt5_3 ?kt5_4 ?ko0_0 ?ko0_1 ?ko0_2 ?ko0_3 ?ko0_4 ?ko1_0 ?ko1_1 ?ko1_2 ?ko1_3 ?ko1_4 ?ko2_0 ?ko2_1 ?ko2_2 ?ko2_3 ?ko2_4 ?ko3_0 ?ko3_1 ?ko3_2 ?ko3_3 ?ko3_4 ?ko4_0 ?ko4_1 ?ko4_2 ?ko4_3 ?ko4_4 ?xm0_0 ?xm0_1 ?xm0_2 ?xm0_3 ?xm0_4 ?xm1_0 ?xm1_1 ?xm1_2 ?xm1_3 ?xm1_4 ?xm2_0 ?xm2_1 ?xm2_2 ?xm2_3 ?xm2_4 ?xm3_0 ?xm3_1 ?xm3_2 ?xm3_3 ?xm3_4 ?xm4_0 ?xm4_1 ?xm4_2 ?xm4_3 ?xm4_4 ?xhn ?xht ?xga0 ?xgg0 ?xex0 ?xhd0 ?xcl0 ?xha0 ?xhm0 ?xnv0 ?xga1 ?xgg1 ?xex1 ?xhd1 ?xcl1 ?xha1 ?xhm1 ?xnv1 ?xga2 ?xgg2 ?xex2 ?xhd2 ?xcl2 ?xha2 ?xhm2 ?xnv2 ?xga3 ?xgg3 ?xex3 ?xhd3 ?xcl3 ?xha3 ?xhm3 ?xnv3 ?xga4 ?xgg4 ?xex4 ?xhd4 ?xcl4 ?xha4 ?xhm4 ?xnv4 ?ent ?esa1 ?eiC1 ?etC1 ?ekC1 ?ety1 ?exi1 ?esu1 ?esV1 ?emC1 ?esa2 ?eiC2 ?etC2 ?ekC2 ?ety2 ?exi2 ?esu2 ?esV2 ?emC2 ?esa3 ?eiC3 ?etC3 ?ekC3 ?ety3 ?exi3 ?esu3 ?esV3 ?emC3 ?esa4 ?eiC4 ?etC4 ?ekC4 ?ety4 ?exi4 ?esu4 ?esV4 ?emC4 ?ec1 ?er1 ?fl1 ?fc1 ?fT1 ?fp1 ?fd1 ?fv1 ?ff1 ?fk1 ?ec2 ?er2 ?fl2 ?fc2 ?fT2 ?fp2 ?fd2 ?fv2 ?ff2 ?fk2 ?ec3 ?er3 ?fl3 ?fc3 ?fT3 ?fp3 ?fd3 ?fv3 ?ff3 ?fk3 ?ec4 ?er4 ?fl4 ?fc4 ?fT4 ?fp4 ?fd4 ?fv4 ?ff4 ?fk4 ?etop) hmg (FL.fnF ?dis_whole_a ?dis_whole_l ?dis_whole_c ?dis_whole_k) (FL.fnF ?dis_between_a ?dis_between_l ?dis_between_c ?dis_between_k) (FL.fnF ?dare_counts_a ?dare_counts_l ?dare_counts_c ?dare_counts_k) (FL.fnF ?dis_point_a ?dis_point_l ?dis_point_c ?dis_point_k) (FL.fnF ?dis_form_for_a ?dis_form_for_l ?dis_form_for_c ?dis_form_for_k) (FL.fnF ?dcheck_number_a ?dcheck_number_l ?dcheck_number_c ?dcheck_number_k) (FL.fnF ?dcheck_many_a ?dcheck_many_l ?dcheck_many_c ?dcheck_many_k) (FL.fnF ?dcheck_point_a ?dcheck_point_l ?dcheck_point_c ?dcheck_point_k) (FL.fnF ?dis_form_a ?dis_form_l ?dis_form_c ?dis_form_k) (FL.fnF ?dis_any_form_a ?dis_any_form_l ?dis_any_form_c ?dis_any_form_k) (FL.fnF ?dcheck_any_form_a ?dcheck_any_form_l ?dcheck_any_form_c ?dcheck_any_form_k) (FL.fnF ?dplain_a ?dplain_l ?dplain_c ?dplain_k) (FL.fnF ?dvalue_at_a ?dvalue_at_l ?dvalue_at_c ?dvalue_at_k) (FL.fnF ?dform_sum_a ?dform_sum_l ?dform_sum_c ?dform_sum_k) (FL.fnF ?dform_times_a ?dform_times_l ?dform_times_c ?dform_times_k) (FL.fnF ?dform_inserted_a ?dform_inserted_l ?dform_inserted_c ?dform_inserted_k) (FL.fnF ?dvalue_a ?dvalue_l ?dvalue_c ?dvalue_k) (FL.fnF ?dcheck_forms_a ?dcheck_forms_l ?dcheck_forms_c ?dcheck_forms_k) (FL.fnF ?dinserted_a ?dinserted_l ?dinserted_c ?dinserted_k) (FL.fnF ?d_law_hash_a ?d_law_hash_l ?d_law_hash_c ?d_law_hash_k) (FL.fnF ?d_law_generator_a ?d_law_generator_l ?d_law_generator_c ?d_law_generator_k) (FL.fnF ?d_law_random_a ?d_law_random_l ?d_law_random_c ?d_law_random_k) (FL.fnF ?d_law_number_a ?d_law_number_l ?d_law_number_c ?d_law_number_k) (FL.fnF ?d_law_form_a ?d_law_form_l ?d_law_form_c ?d_law_form_k) (FL.fnF ?d_law_value_a ?d_law_value_l ?d_law_value_c ?d_law_value_k) (FL.fnF ?d_law_good_a ?d_law_good_l ?d_law_good_c ?d_law_good_k) (FL.fnF ?d_law_caught_a ?d_law_caught_l ?d_law_caught_c ?d_law_caught_k) (FL.fnF ?d_law_only_a ?d_law_only_l ?d_law_only_c ?d_law_only_k) (FL.fnF ?d_law_refused_a ?d_law_refused_l ?d_law_refused_c ?d_law_refused_k) (FL.fnF ?dlaw_a ?dlaw_l ?dlaw_c ?dlaw_k)
    (case aC0 => first | k_is | kernel_rfl | exact rfl)
    (case aC1 => first | k_is | kernel_rfl | exact rfl)
    (case aC2 => first | k_is | kernel_rfl | exact rfl)
    (case aC3 => first | k_is | kernel_rfl | exact rfl)
    (case aC4 => first | k_is | kernel_rfl | exact rfl)
    (case aM => first | k_is | kernel_rfl | exact rfl)
    (case g_bool => first | k_is | kernel_rfl | exact rfl)
    (case g_int => first | k_is | kernel_rfl | exact rfl)
    (case g_isinstance => first | k_is | kernel_rfl | exact rfl)
    (case g_len => first | k_is | kernel_rfl | exact rfl)
    (case g_list => first | k_is | kernel_rfl | exact rfl)
    (case g_max => first | k_is | kernel_rfl | exact rfl)
    (case g_range => first | k_is | kernel_rfl | exact rfl)
    (case g_repr => first | k_is | kernel_rfl | exact rfl)
    (case g_sum => first | k_is | kernel_rfl | exact rfl)
    (case g_super => first | k_is | kernel_rfl | exact rfl)
    (case g_tuple => first | k_is | kernel_rfl | exact rfl)
    (case g_zip => first | k_is | kernel_rfl | exact rfl)
    (case kt0_0 => first | k_is | kernel_rfl | exact rfl)
    (case kt0_1 => first | k_is | kernel_rfl | exact rfl)
    (case kt0_2 => first | k_is | kernel_rfl | exact rfl)
    (case kt0_3 => first | k_is | kernel_rfl | exact rfl)
    (case kt0_4 => first | k_is | kernel_rfl | exact rfl)
    (case kt1_0 => first | k_is | kernel_rfl | exact rfl)
    (case kt1_1 => first | k_is | kernel_rfl | exact rfl)
    (case kt1_2 => first | k_is | kernel_rfl | exact rfl)
    (case kt1_3 => first | k_is | kernel_rfl | exact rfl)
    (case kt1_4 => first | k_is | kernel_rfl | exact rfl)
    (case kt2_0 => first | k_is | kernel_rfl | exact rfl)
    (case kt2_1 => first | k_is | kernel_rfl | exact rfl)
    (case kt2_2 => first | k_is | kernel_rfl | exact rfl)
    (case kt2_3 => first | k_is | kernel_rfl | exact rfl)
    (case kt2_4 => first | k_is | kernel_rfl | exact rfl)
    (case kt3_0 => first | k_is | kernel_rfl | exact rfl)
    (case kt3_1 => first | k_is | kernel_rfl | exact rfl)
    (case kt3_2 => first | k_is | kernel_rfl | exact rfl)
    (case kt3_3 => first | k_is | kernel_rfl | exact rfl)
    (case kt3_4 => first | k_is | kernel_rfl | exact rfl)
    (case kt4_0 => first | k_is | kernel_rfl | exact rfl)
    (case kt4_1 => first | k_is | kernel_rfl | exact rfl)
    (case kt4_2 => first | k_is | kernel_rfl | exact rfl)
    (case kt4_3 => first | k_is | kernel_rfl | exact rfl)
    (case kt4_4 => first | k_is | kernel_rfl | exact rfl)
    (case kt5_0 => first | k_is | kernel_rfl | exact rfl)
    (case kt5_1 => first | k_is | kernel_rfl | exact rfl)
    (case kt5_2 => first | k_is | kernel_rfl | exact rfl)
    (case kt5_3 => first | k_is | kernel_rfl | exact rfl)
    (case kt5_4 => first | k_is | kernel_rfl | exact rfl)
    (case ko0_0 => first | k_is | kernel_rfl | exact rfl)
    (case ko0_1 => first | k_is | kernel_rfl | exact rfl)
    (case ko0_2 => first | k_is | kernel_rfl | exact rfl)
    (case ko0_3 => first | k_is | kernel_rfl | exact rfl)
    (case ko0_4 => first | k_is | kernel_rfl | exact rfl)
    (case ko1_0 => first | k_is | kernel_rfl | exact rfl)
    (case ko1_1 => first | k_is | kernel_rfl | exact rfl)
    (case ko1_2 => first | k_is | kernel_rfl | exact rfl)
    (case ko1_3 => first | k_is | kernel_rfl | exact rfl)
    (case ko1_4 => first | k_is | kernel_rfl | exact rfl)
    (case ko2_0 => first | k_is | kernel_rfl | exact rfl)
    (case ko2_1 => first | k_is | kernel_rfl | exact rfl)
    (case ko2_2 => first | k_is | kernel_rfl | exact rfl)
    (case ko2_3 => first | k_is | kernel_rfl | exact rfl)
    (case ko2_4 => first | k_is | kernel_rfl | exact rfl)
    (case ko3_0 => first | k_is | kernel_rfl | exact rfl)
    (case ko3_1 => first | k_is | kernel_rfl | exact rfl)
    (case ko3_2 => first | k_is | kernel_rfl | exact rfl)
    (case ko3_3 => first | k_is | kernel_rfl | exact rfl)
    (case ko3_4 => first | k_is | kernel_rfl | exact rfl)
    (case ko4_0 => first | k_is | kernel_rfl | exact rfl)
    (case ko4_1 => first | k_is | kernel_rfl | exact rfl)
    (case ko4_2 => first | k_is | kernel_rfl | exact rfl)
    (case ko4_3 => first | k_is | kernel_rfl | exact rfl)
    (case ko4_4 => first | k_is | kernel_rfl | exact rfl)
    (case xm0_0 => first | k_is | kernel_rfl | exact rfl)
    (case xm0_1 => first | k_is | kernel_rfl | exact rfl)
    (case xm0_2 => first | k_is | kernel_rfl | exact rfl)
    (case xm0_3 => first | k_is | kernel_rfl | exact rfl)
    (case xm0_4 => first | k_is | kernel_rfl | exact rfl)
    (case xm1_0 => first | k_is | kernel_rfl | exact rfl)
    (case xm1_1 => first | k_is | kernel_rfl | exact rfl)
    (case xm1_2 => first | k_is | kernel_rfl | exact rfl)
    (case xm1_3 => first | k_is | kernel_rfl | exact rfl)
    (case xm1_4 => first | k_is | kernel_rfl | exact rfl)
    (case xm2_0 => first | k_is | kernel_rfl | exact rfl)
    (case xm2_1 => first | k_is | kernel_rfl | exact rfl)
    (case xm2_2 => first | k_is | kernel_rfl | exact rfl)
    (case xm2_3 => first | k_is | kernel_rfl | exact rfl)
    (case xm2_4 => first | k_is | kernel_rfl | exact rfl)
    (case xm3_0 => first | k_is | kernel_rfl | exact rfl)
    (case xm3_1 => first | k_is | kernel_rfl | exact rfl)
    (case xm3_2 => first | k_is | kernel_rfl | exact rfl)
    (case xm3_3 => first | k_is | kernel_rfl | exact rfl)
    (case xm3_4 => first | k_is | kernel_rfl | exact rfl)
    (case xm4_0 => first | k_is | kernel_rfl | exact rfl)
    (case xm4_1 => first | k_is | kernel_rfl | exact rfl)
    (case xm4_2 => first | k_is | kernel_rfl | exact rfl)
    (case xm4_3 => first | k_is | kernel_rfl | exact rfl)
    (case xm4_4 => first | k_is | kernel_rfl | exact rfl)
    (case xhn => first | k_is | kernel_rfl | exact rfl)
    (case xht => first | k_is | kernel_rfl | exact rfl)
    (case xga0 => first | k_is | kernel_rfl | exact rfl)
    (case xgg0 => first | k_is | kernel_rfl | exact rfl)
    (case xex0 => first | k_is | kernel_rfl | exact rfl)
    (case xhd0 => first | k_is | kernel_rfl | exact rfl)
    (case xcl0 => first | k_is | kernel_rfl | exact rfl)
    (case xha0 => first | k_is | kernel_rfl | exact rfl)
    (case xhm0 => first | k_is | kernel_rfl | exact rfl)
    (case xnv0 => first | k_is | kernel_rfl | exact rfl)
    (case xga1 => first | k_is | kernel_rfl | exact rfl)
    (case xgg1 => first | k_is | kernel_rfl | exact rfl)
    (case xex1 => first | k_is | kernel_rfl | exact rfl)
    (case xhd1 => first | k_is | kernel_rfl | exact rfl)
    (case xcl1 => first | k_is | kernel_rfl | exact rfl)
    (case xha1 => first | k_is | kernel_rfl | exact rfl)
    (case xhm1 => first | k_is | kernel_rfl | exact rfl)
    (case xnv1 => first | k_is | kernel_rfl | exact rfl)
    (case xga2 => first | k_is | kernel_rfl | exact rfl)
    (case xgg2 => first | k_is | kernel_rfl | exact rfl)
    (case xex2 => first | k_is | kernel_rfl | exact rfl)
    (case xhd2 => first | k_is | kernel_rfl | exact rfl)
    (case xcl2 => first | k_is | kernel_rfl | exact rfl)
    (case xha2 => first | k_is | kernel_rfl | exact rfl)
    (case xhm2 => first | k_is | kernel_rfl | exact rfl)
    (case xnv2 => first | k_is | kernel_rfl | exact rfl)
    (case xga3 => first | k_is | kernel_rfl | exact rfl)
    (case xgg3 => first | k_is | kernel_rfl | exact rfl)
    (case xex3 => first | k_is | kernel_rfl | exact rfl)
    (case xhd3 => first | k_is | kernel_rfl | exact rfl)
    (case xcl3 => first | k_is | kernel_rfl | exact rfl)
    (case xha3 => first | k_is | kernel_rfl | exact rfl)
    (case xhm3 => first | k_is | kernel_rfl | exact rfl)
    (case xnv3 => first | k_is | kernel_rfl | exact rfl)
    (case xga4 => first | k_is | kernel_rfl | exact rfl)
    (case xgg4 => first | k_is | kernel_rfl | exact rfl)
    (case xex4 => first | k_is | kernel_rfl | exact rfl)
    (case xhd4 => first | k_is | kernel_rfl | exact rfl)
    (case xcl4 => first | k_is | kernel_rfl | exact rfl)
    (case xha4 => first | k_is | kernel_rfl | exact rfl)
    (case xhm4 => first | k_is | kernel_rfl | exact rfl)
    (case xnv4 => first | k_is | kernel_rfl | exact rfl)
    (case ent => first | k_is | kernel_rfl | exact rfl)
    (case esa1 => first | k_is | kernel_rfl | exact rfl)
    (case eiC1 => first | k_is | kernel_rfl | exact rfl)
    (case etC1 => first | k_is | kernel_rfl | exact rfl)
    (case ekC1 => first | k_is | kernel_rfl | exact rfl)
    (case ety1 => first | k_is | kernel_rfl | exact rfl)
    (case exi1 => first | k_is | kernel_rfl | exact rfl)
    (case esu1 => first | k_is | kernel_rfl | exact rfl)
    (case esV1 => first | k_is | kernel_rfl | exact rfl)
    (case emC1 => first | k_is | kernel_rfl | exact rfl)
    (case esa2 => first | k_is | kernel_rfl | exact rfl)
    (case eiC2 => first | k_is | kernel_rfl | exact rfl)
    (case etC2 => first | k_is | kernel_rfl | exact rfl)
    (case ekC2 => first | k_is | kernel_rfl | exact rfl)
    (case ety2 => first | k_is | kernel_rfl | exact rfl)
    (case exi2 => first | k_is | kernel_rfl | exact rfl)
    (case esu2 => first | k_is | kernel_rfl | exact rfl)
    (case esV2 => first | k_is | kernel_rfl | exact rfl)
    (case emC2 => first | k_is | kernel_rfl | exact rfl)
    (case esa3 => first | k_is | kernel_rfl | exact rfl)
    (case eiC3 => first | k_is | kernel_rfl | exact rfl)
    (case etC3 => first | k_is | kernel_rfl | exact rfl)
    (case ekC3 => first | k_is | kernel_rfl | exact rfl)
    (case ety3 => first | k_is | kernel_rfl | exact rfl)
    (case exi3 => first | k_is | kernel_rfl | exact rfl)
    (case esu3 => first | k_is | kernel_rfl | exact rfl)
    (case esV3 => first | k_is | kernel_rfl | exact rfl)
    (case emC3 => first | k_is | kernel_rfl | exact rfl)
    (case esa4 => first | k_is | kernel_rfl | exact rfl)
    (case eiC4 => first | k_is | kernel_rfl | exact rfl)
    (case etC4 => first | k_is | kernel_rfl | exact rfl)
    (case ekC4 => first | k_is | kernel_rfl | exact rfl)
    (case ety4 => first | k_is | kernel_rfl | exact rfl)
    (case exi4 => first | k_is | kernel_rfl | exact rfl)
    (case esu4 => first | k_is | kernel_rfl | exact rfl)
    (case esV4 => first | k_is | kernel_rfl | exact rfl)
    (case emC4 => first | k_is | kernel_rfl | exact rfl)
    (case ec1 => first | k_is | kernel_rfl | exact rfl)
    (case er1 => first | k_is | kernel_rfl | exact rfl)
    (case fl1 => first | k_is | kernel_rfl | exact rfl)
    (case fc1 => first | k_is | kernel_rfl | exact rfl)
    (case fT1 => first | k_is | kernel_rfl | exact rfl)
    (case fp1 => first | k_is | kernel_rfl | exact rfl)
    (case fd1 => first | k_is | kernel_rfl | exact rfl)
    (case fv1 => exact rfl)
    (case ff1 => first | k_is | kernel_rfl | exact rfl)
    (case fk1 => first | k_is | kernel_rfl | exact rfl)
    (case ec2 => first | k_is | kernel_rfl | exact rfl)
    (case er2 => first | k_is | kernel_rfl | exact rfl)
    (case fl2 => first | k_is | kernel_rfl | exact rfl)
    (case fc2 => first | k_is | kernel_rfl | exact rfl)
    (case fT2 => first | k_is | kernel_rfl | exact rfl)
    (case fp2 => first | k_is | kernel_rfl | exact rfl)
    (case fd2 => first | k_is | kernel_rfl | exact rfl)
    (case fv2 => exact rfl)
    (case ff2 => first | k_is | kernel_rfl | exact rfl)
    (case fk2 => first | k_is | kernel_rfl | exact rfl)
    (case ec3 => first | k_is | kernel_rfl | exact rfl)
    (case er3 => first | k_is | kernel_rfl | exact rfl)
    (case fl3 => first | k_is | kernel_rfl | exact rfl)
    (case fc3 => first | k_is | kernel_rfl | exact rfl)
    (case fT3 => first | k_is | kernel_rfl | exact rfl)
    (case fp3 => first | k_is | kernel_rfl | exact rfl)
    (case fd3 => first | k_is | kernel_rfl | exact rfl)
    (case fv3 => exact rfl)
    (case ff3 => first | k_is | kernel_rfl | exact rfl)
    (case fk3 => first | k_is | kernel_rfl | exact rfl)
    (case ec4 => first | k_is | kernel_rfl | exact rfl)
    (case er4 => first | k_is | kernel_rfl | exact rfl)
    (case fl4 => first | k_is | kernel_rfl | exact rfl)
    (case fc4 => first | k_is | kernel_rfl | exact rfl)
    (case fT4 => first | k_is | kernel_rfl | exact rfl)
    (case fp4 => first | k_is | kernel_rfl | exact rfl)
    (case fd4 => first | k_is | kernel_rfl | exact rfl)
    (case fv4 => exact rfl)
    (case ff4 => first | k_is | kernel_rfl | exact rfl)
    (case fk4 => first | k_is | kernel_rfl | exact rfl)
    (case etop => first | k_is | kernel_rfl | exact rfl)
    (case dis_whole_a => k_is)
    (case dis_whole_l => k_is)
    (case dis_whole_c => k_is)
    (case dis_whole_k => k_is)
    (case dis_between_a => k_is)
    (case dis_between_l => k_is)
    (case dis_between_c => k_is)
    (case dis_between_k => k_is)
    (case dare_counts_a => k_is)
    (case dare_counts_l => k_is)
    (case dare_counts_c => k_is)
    (case dare_counts_k => k_is)
    (case dis_point_a => k_is)
    (case dis_point_l => k_is)
    (case dis_point_c => k_is)
    (case dis_point_k => k_is)
    (case dis_form_for_a => k_is)
    (case dis_form_for_l => k_is)
    (case dis_form_for_c => k_is)
    (case dis_form_for_k => k_is)
    (case dcheck_number_a => k_is)
    (case dcheck_number_l => k_is)
    (case dcheck_number_c => k_is)
    (case dcheck_number_k => k_is)
    (case dcheck_many_a => k_is)
    (case dcheck_many_l => k_is)
    (case dcheck_many_c => k_is)
    (case dcheck_many_k => k_is)
    (case dcheck_point_a => k_is)
    (case dcheck_point_l => k_is)
    (case dcheck_point_c => k_is)
    (case dcheck_point_k => k_is)
    (case dis_form_a => k_is)
    (case dis_form_l => k_is)
    (case dis_form_c => k_is)
    (case dis_form_k => k_is)
    (case dis_any_form_a => k_is)
    (case dis_any_form_l => k_is)
    (case dis_any_form_c => k_is)
    (case dis_any_form_k => k_is)
    (case dcheck_any_form_a => k_is)
    (case dcheck_any_form_l => k_is)
    (case dcheck_any_form_c => k_is)
    (case dcheck_any_form_k => k_is)
    (case dplain_a => k_is)
    (case dplain_l => k_is)
    (case dplain_c => k_is)
    (case dplain_k => k_is)
    (case dvalue_at_a => k_is)
    (case dvalue_at_l => k_is)
    (case dvalue_at_c => k_is)
    (case dvalue_at_k => k_is)
    (case dform_sum_a => k_is)
    (case dform_sum_l => k_is)
    (case dform_sum_c => k_is)
    (case dform_sum_k => k_is)
    (case dform_times_a => k_is)
    (case dform_times_l => k_is)
    (case dform_times_c => k_is)
    (case dform_times_k => k_is)
    (case dform_inserted_a => k_is)
    (case dform_inserted_l => k_is)
    (case dform_inserted_c => k_is)
    (case dform_inserted_k => k_is)
    (case dvalue_a => k_is)
    (case dvalue_l => k_is)
    (case dvalue_c => k_is)
    (case dvalue_k => k_is)
    (case dcheck_forms_a => k_is)
    (case dcheck_forms_l => k_is)
    (case dcheck_forms_c => k_is)
    (case dcheck_forms_k => k_is)
    (case dinserted_a => k_is)
    (case dinserted_l => k_is)
    (case dinserted_c => k_is)
    (case dinserted_k => k_is)
    (case d_law_hash_a => k_is)
    (case d_law_hash_l => k_is)
    (case d_law_hash_c => k_is)
    (case d_law_hash_k => k_is)
    (case d_law_generator_a => k_is)
    (case d_law_generator_l => k_is)
    (case d_law_generator_c => k_is)
    (case d_law_generator_k => k_is)
    (case d_law_random_a => k_is)
    (case d_law_random_l => k_is)
    (case d_law_random_c => k_is)
    (case d_law_random_k => k_is)
    (case d_law_number_a => k_is)
    (case d_law_number_l => k_is)
    (case d_law_number_c => k_is)
    (case d_law_number_k => k_is)
    (case d_law_form_a => k_is)
    (case d_law_form_l => k_is)
    (case d_law_form_c => k_is)
    (case d_law_form_k => k_is)
    (case d_law_value_a => k_is)
    (case d_law_value_l => k_is)
    (case d_law_value_c => k_is)
    (case d_law_value_k => k_is)
    (case d_law_good_a => k_is)
    (case d_law_good_l => k_is)
    (case d_law_good_c => k_is)
    (case d_law_good_k => k_is)
    (case d_law_caught_a => k_is)
    (case d_law_caught_l => k_is)
    (case d_law_caught_c => k_is)
    (case d_law_caught_k => k_is)
    (case d_law_only_a => k_is)
    (case d_law_only_l => k_is)
    (case d_law_only_c => k_is)
    (case d_law_only_k => k_is)
    (case d_law_refused_a => k_is)
    (case d_law_refused_l => k_is)
    (case d_law_refused_c => k_is)
    (case d_law_refused_k => k_is)
    (case dlaw_a => k_is)
    (case dlaw_l => k_is)
    (case dlaw_c => k_is)
    (case dlaw_k => k_is)
#print axioms PySem.Challenge.cw_openloops_k01_forms_at_points_holds

