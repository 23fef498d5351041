import PyProof.Rows.All
import Wide.All
import OpenK.AllK
import Wide.FinOn
import HandS.ForMost
import HandS.ForExc
import HandS.Wide
import HandS.Codes
import HandS.Conv
import HandS.IsInst
import HandS.Property
import HandS.ClsMeth
import HandS.Star
import HandS.Flow
import HandS.Style
import HandS.FStr
import HandS.MakeKw
import HandS.Defaults
import HandS.TupAny
import HandS.Walk
import HandS.NoneIn
import HandS.Lambda
import PyProof.ReprRoads
import PyProof.ReprLen
import HandS.EndBits
import KE.KOpsOwn
import KE.GoesMore
import PyProof.EnumMake
import HandS.RaiseMore
import PyProof.Rows.StrCountLaw
import PyProof.Rows.SortStr
import PyProof.Rows.StrMeet
import PyProof.ListStr
import PySem.Challenge.RW_everystop_k51_rows_alike
set_option Elab.async false
set_option linter.all false
set_option maxRecDepth 100000
set_option maxHeartbeats 4000000
-- DxA
namespace Dx
open PySem PySem.Spec PyProof.Rows L2
/-- python data that never changes -/
inductive D where
  | non | bl (b : Bool) | int (i : Int) | str (x : Str) | pen | ref (a : Addr) | ty (n : String)
  | tup (ds : List D) | lst (ds : List D) | dic (kvs : List (Key × D)) | obj (C : Addr) (fs : List (Str × D))
/-- a world: the addresses that may change (the pen and the lists that are being made), the pen -/
structure U where
  F : Addr → Prop
  p : Addr
  cl : Addr
mutual
def Rep (u : U) (H : Hp) : D → V → Prop
  | .non, v => v = .non
  | .bl b, v => v = .bl b
  | .int i, v => v = .int i
  | .str x, v => v = .str x
  | .pen, v => v = .ref u.p
  | .ref a, v => v = .ref a
  | .ty n, v => v = .ty n
  | .tup ds, v => ∃ a vs, v = .ref a ∧ ¬ u.F a ∧ H a = some (.tup vs) ∧ RepL u H ds vs
  | .lst ds, v => ∃ a vs, v = .ref a ∧ ¬ u.F a ∧ H a = some (.lst vs) ∧ RepL u H ds vs
  | .dic kvs, v => ∃ a us, v = .ref a ∧ ¬ u.F a ∧ H a = some (.dK us) ∧ RepK u H kvs us
  | .obj C fs, v => ∃ a dx us, v = .ref a ∧ ¬ u.F a ∧ H a = some (.ins C dx us) ∧ RepF u H fs us
def RepL (u : U) (H : Hp) : List D → List V → Prop
  | [], vs => vs = []
  | d :: ds, vs => ∃ v r, vs = v :: r ∧ Rep u H d v ∧ RepL u H ds r
def RepK (u : U) (H : Hp) : List (Key × D) → List (Key × V) → Prop
  | [], vs => vs = []
  | (k, d) :: ds, vs => ∃ v r, vs = (k, v) :: r ∧ Rep u H d v ∧ RepK u H ds r
def RepF (u : U) (H : Hp) : List (Str × D) → List (Str × V) → Prop
  | [], vs => vs = []
  | (k, d) :: ds, vs => ∃ v r, vs = (k, v) :: r ∧ Rep u H d v ∧ RepF u H ds r
end
/-- what stands outside of F goes on to stand -/
def Kp (F : Addr → Prop) (H H' : Hp) : Prop := ∀ a o, ¬ F a → H a = some o → H' a = some o
mutual
theorem Rep.mono {u u' : U} {H H' : Hp} (k : Kp u.F H H') (hp : u'.p = u.p) (hF : ∀ a o, ¬ u.F a → H a = some o → ¬ u'.F a) : ∀ (d : D) (v : V), Rep u H d v → Rep u' H' d v
  | .non, v, h => h
  | .bl b, v, h => h
  | .int i, v, h => h
  | .str x, v, h => h
  | .pen, v, h => by
    have h : v = .ref u.p := h
    show v = .ref u'.p
    rw [hp]; exact h
  | .ref a, v, h => h
  | .ty n, v, h => h
  | .tup ds, v, h => by
    obtain ⟨a, vs, e, f, g, r⟩ := (show ∃ a vs, v = .ref a ∧ ¬ u.F a ∧ H a = some (.tup vs) ∧ RepL u H ds vs from h)
    exact ⟨a, vs, e, hF a _ f g, k a _ f g, RepL.mono k hp hF ds vs r⟩
  | .lst ds, v, h => by
    obtain ⟨a, vs, e, f, g, r⟩ := (show ∃ a vs, v = .ref a ∧ ¬ u.F a ∧ H a = some (.lst vs) ∧ RepL u H ds vs from h)
    exact ⟨a, vs, e, hF a _ f g, k a _ f g, RepL.mono k hp hF ds vs r⟩
  | .dic kvs, v, h => by
    obtain ⟨a, vs, e, f, g, r⟩ := (show ∃ a us, v = .ref a ∧ ¬ u.F a ∧ H a = some (.dK us) ∧ RepK u H kvs us from h)
    exact ⟨a, vs, e, hF a _ f g, k a _ f g, RepK.mono k hp hF kvs vs r⟩
  | .obj C fs, v, h => by
    obtain ⟨a, dx, vs, e, f, g, r⟩ := (show ∃ a dx us, v = .ref a ∧ ¬ u.F a ∧ H a = some (.ins C dx us) ∧ RepF u H fs us from h)
    exact ⟨a, dx, vs, e, hF a _ f g, k a _ f g, RepF.mono k hp hF fs vs r⟩
theorem RepL.mono {u u' : U} {H H' : Hp} (k : Kp u.F H H') (hp : u'.p = u.p) (hF : ∀ a o, ¬ u.F a → H a = some o → ¬ u'.F a) : ∀ (ds : List D) (vs : List V), RepL u H ds vs → RepL u' H' ds vs
  | [], vs, h => h
  | d :: ds, vs, h => by
    obtain ⟨v, r, e, a, b⟩ := (show ∃ v r, vs = v :: r ∧ Rep u H d v ∧ RepL u H ds r from h)
    exact ⟨v, r, e, Rep.mono k hp hF d v a, RepL.mono k hp hF ds r b⟩
theorem RepK.mono {u u' : U} {H H' : Hp} (k : Kp u.F H H') (hp : u'.p = u.p) (hF : ∀ a o, ¬ u.F a → H a = some o → ¬ u'.F a) : ∀ (ds : List (Key × D)) (vs : List (Key × V)), RepK u H ds vs → RepK u' H' ds vs
  | [], vs, h => h
  | (q, d) :: ds, vs, h => by
    obtain ⟨v, r, e, a, b⟩ := (show ∃ v r, vs = (q, v) :: r ∧ Rep u H d v ∧ RepK u H ds r from h)
    exact ⟨v, r, e, Rep.mono k hp hF d v a, RepK.mono k hp hF ds r b⟩
theorem RepF.mono {u u' : U} {H H' : Hp} (k : Kp u.F H H') (hp : u'.p = u.p) (hF : ∀ a o, ¬ u.F a → H a = some o → ¬ u'.F a) : ∀ (ds : List (Str × D)) (vs : List (Str × V)), RepF u H ds vs → RepF u' H' ds vs
  | [], vs, h => h
  | (q, d) :: ds, vs, h => by
    obtain ⟨v, r, e, a, b⟩ := (show ∃ v r, vs = (q, v) :: r ∧ Rep u H d v ∧ RepF u H ds r from h)
    exact ⟨v, r, e, Rep.mono k hp hF d v a, RepF.mono k hp hF ds r b⟩
end
end Dx
-- DxB
namespace Dx
open PySem PySem.Spec PyProof.Rows L2
/-- draws in all -/
def lim : Nat := 1000000
/-- the size of the greatest ints, in bits -/
def BB : Nat := 1048580
/-- the pen: the cells, the number of the next one, the rest of a great one -/
def Pen (u : U) (n : Nat) (H : Hp) : Prop := ∃ (ns : List Int) (t r : Int), H u.p = some (.lst [.ref u.cl, .int t, .int r]) ∧ H u.cl = some (.lst (ns.map V.int)) ∧ ns.length ≤ 63 ∧ 0 ≤ t ∧ t ≤ n ∧ 0 ≤ r ∧ r.natAbs < 2 ^ BB ∧ ∀ i ∈ ns, i.natAbs < 2 ^ (BB - 3)
theorem Pen.up {u : U} {n m : Nat} {H : Hp} (h : Pen u n H) (hm : n ≤ m) : Pen u m H := by
  obtain ⟨ns, t, r, a1, a4, a5, a6, a7, a8⟩ := h
  exact ⟨ns, t, r, a1, a4, a5, a6, by omega, a8⟩
/-- all but the pen -/
def Exp (p : Addr) (H H' : Hp) : Prop := ∀ a o, a ≠ p → H a = some o → H' a = some o
theorem Exp.refl {p : Addr} {H : Hp} : Exp p H H := fun _ _ _ h => h
theorem Exp.trans {p : Addr} {H H1 H2 : Hp} (a : Exp p H H1) (b : Exp p H1 H2) : Exp p H H2 := fun x o n h => b x o n (a x o n h)
theorem Exp.new {p a : Addr} {H : Hp} {o : HO} (h : H a = none) : Exp p H (upd H a o) := fun b q _ e => by
  rw [upd_ne (ne_of_none e h)]; exact e
/-- the world is alive -/
structure Al (u : U) (n : Nat) (H : Hp) : Prop where
  pF : u.F u.p
  cF : ¬ u.F u.cl
  dom : ∀ a, u.F a → ∃ o, H a = some o
  pen : Pen u n H
theorem Exp.kp {u : U} {n : Nat} {H H' : Hp} (h : Al u n H) (e : Exp u.p H H') : Kp u.F H H' := fun a o f g => e a o (fun z => f (by rw [z]; exact h.pF)) g
theorem Al.step {u : U} {n m : Nat} {H H' : Hp} (h : Al u n H) (e : Exp u.p H H') (p : Pen u m H') : Al u m H' := by
  refine ⟨h.pF, h.cF, fun a f => ?_, p⟩
  by_cases z : a = u.p
  · obtain ⟨ns, t, r, a1, _⟩ := p
    exact ⟨_, by rw [z]; exact a1⟩
  · obtain ⟨o, ho⟩ := h.dom a f
    exact ⟨o, e a o z ho⟩
theorem Al.up {u : U} {n m : Nat} {H : Hp} (h : Al u n H) (hm : n ≤ m) : Al u m H := ⟨h.pF, h.cF, h.dom, h.pen.up hm⟩
theorem Rep.go {u : U} {n : Nat} {H H' : Hp} {d : D} {v : V} (r : Rep u H d v) (h : Al u n H) (e : Exp u.p H H') : Rep u H' d v := Rep.mono (e.kp h) rfl (fun _ _ f _ => f) d v r
theorem RepL.go {u : U} {n : Nat} {H H' : Hp} {d : List D} {v : List V} (r : RepL u H d v) (h : Al u n H) (e : Exp u.p H H') : RepL u H' d v := RepL.mono (e.kp h) rfl (fun _ _ f _ => f) d v r
theorem RepF.go {u : U} {n : Nat} {H H' : Hp} {d : List (Str × D)} {v : List (Str × V)} (r : RepF u H d v) (h : Al u n H) (e : Exp u.p H H') : RepF u H' d v := RepF.mono (e.kp h) rfl (fun _ _ f _ => f) d v r
theorem RepK.go {u : U} {n : Nat} {H H' : Hp} {d : List (Key × D)} {v : List (Key × V)} (r : RepK u H d v) (h : Al u n H) (e : Exp u.p H H') : RepK u H' d v := RepK.mono (e.kp h) rfl (fun _ _ f _ => f) d v r
theorem Al.newp {u : U} {n : Nat} {H : Hp} {a : Addr} {o : HO} (h : Al u n H) (ha : H a = none) : Pen u n (upd H a o) := by
  obtain ⟨ns, t, r, a1, a4, a5⟩ := h.pen
  exact ⟨ns, t, r, by rw [upd_ne (ne_of_none a1 ha)]; exact a1, by rw [upd_ne (ne_of_none a4 ha)]; exact a4, a5⟩
theorem Al.notF {u : U} {n : Nat} {H : Hp} {a : Addr} (h : Al u n H) (ha : H a = none) : ¬ u.F a := fun f => by
  obtain ⟨o, e⟩ := h.dom a f
  rw [ha] at e; cases e
/-- what a slot holds: nothing that is known; data; a list, a dict, an instance that is being made here -/
inductive Sl where
  | no | va (d : D) | li (ds : List D) | di (kvs : List (Key × D)) | ins (a dx C : Addr) (fs : List (Str × D))
def Sl.own : Sl → Prop
  | .li _ => True
  | .di _ => True
  | .ins _ _ _ _ => True
  | _ => False
def SlOk (u : U) (H : Hp) (x : Option (Option V)) : Sl → Prop
  | .no => True
  | .va d => ∃ v, x = some (some v) ∧ Rep u H d v
  | .li ds => ∃ a vs, x = some (some (.ref a)) ∧ u.F a ∧ a ≠ u.p ∧ H a = some (.lst vs) ∧ RepL u H ds vs
  | .di kvs => ∃ a us, x = some (some (.ref a)) ∧ u.F a ∧ a ≠ u.p ∧ H a = some (.dK us) ∧ RepK u H kvs us
  | .ins a dx C fs => ∃ us, x = some (some (.ref a)) ∧ u.F a ∧ a ≠ u.p ∧ H a = some (.ins C dx us) ∧ RepF u H fs us
theorem SlOk.go {u : U} {n : Nat} {H H' : Hp} {x : Option (Option V)} {s : Sl} (r : SlOk u H x s) (h : Al u n H) (e : Exp u.p H H') : SlOk u H' x s := by
  cases s with
  | no => trivial
  | va d => obtain ⟨v, a, b⟩ := r; exact ⟨v, a, b.go h e⟩
  | li ds => obtain ⟨a, vs, a1, a2, a3, a4, a5⟩ := r; exact ⟨a, vs, a1, a2, a3, e a _ a3 a4, a5.go h e⟩
  | di ds => obtain ⟨a, vs, a1, a2, a3, a4, a5⟩ := r; exact ⟨a, vs, a1, a2, a3, e a _ a3 a4, a5.go h e⟩
  | ins a dx C fs => obtain ⟨vs, a1, a2, a3, a4, a5⟩ := r; exact ⟨vs, a1, a2, a3, e a _ a3 a4, a5.go h e⟩
abbrev Gm := List Sl
structure At (u : U) (n : Nat) (H : Hp) (σ : L2.St) (Γ : Gm) : Prop extends Al u n H where
  len : σ.length = Γ.length
  sl : ∀ (i : Nat) (s : Sl), Γ[i]? = some s → SlOk u H (σ[i]?) s
  sep : ∀ (i j : Nat) (si sj : Sl) (a : Addr), i ≠ j → Γ[i]? = some si → Γ[j]? = some sj → si.own → sj.own → σ[i]? = some (some (.ref a)) → σ[j]? = some (some (.ref a)) → False
theorem At.step {u : U} {n m : Nat} {H H' : Hp} {σ : L2.St} {Γ : Gm} (h : At u n H σ Γ) (e : Exp u.p H H') (p : Pen u m H') : At u m H' σ Γ :=
  ⟨h.toAl.step e p, h.len, fun i s g => (h.sl i s g).go h.toAl e, h.sep⟩
theorem At.up {u : U} {n m : Nat} {H : Hp} {σ : L2.St} {Γ : Gm} (h : At u n H σ Γ) (hm : n ≤ m) : At u m H σ Γ := ⟨h.toAl.up hm, h.len, h.sl, h.sep⟩
/-- an exception: its class, its fields -/
abbrev XP := Addr → List (Str × D) → Prop
abbrev XN : XP := fun _ _ => False
def RepX (u : U) (H : Hp) (cls : Value) (od : Option Addr) (C : Addr) (fs : List (Str × D)) : Prop := cls = .ref C ∧ ((fs = [] ∧ od = none) ∨ ∃ dd us, od = some dd ∧ ¬ u.F dd ∧ H dd = some (.xd us) ∧ RepF u H fs us)
/-- the ends of an evaluation -/
def KN (u : U) (n : Nat) (H : Hp) (post : D → Prop) (Q : VK) : Prop := ∀ v d H', Exp u.p H H' → Pen u n H' → Rep u H' d v → post d → Q v H'
def KX (u : U) (n : Nat) (H : Hp) (σ : L2.St) (xp : XP) (W : WX) : Prop := ∀ cls od C fs H', Exp u.p H H' → Pen u n H' → RepX u H' cls od C fs → xp C fs → W cls od σ H'
theorem KX.go {u : U} {n m : Nat} {H H' : Hp} {σ : L2.St} {xp : XP} {W : WX} (k : KX u n H σ xp W) (e : Exp u.p H H') (hm : m ≤ n) : KX u m H' σ xp W := fun cls od C fs H2 e2 p r q => k cls od C fs H2 (e.trans e2) (p.up hm) r q
/-! ### the readings that hold of whatever is shown -/
structure TW (X : Cx) (e : Expr) (σ : L2.St) (H : Hp) (Q : VK) : Prop where
  run : ∀ (pins : List (Addr × Obj)) (s : Shared), Inv X pins σ H s → wpAny (model X.prog X.w) X.A (eval e X.env) (EP X pins σ Q) X.xe s
instance {X : Cx} {e : Expr} {σ : L2.St} {H : Hp} {Q : VK} : CoeFun (TW X e σ H Q) fun _ => ∀ (pins : List (Addr × Obj)) (s : Shared), Inv X pins σ H s → wpAny (model X.prog X.w) X.A (eval e X.env) (EP X pins σ Q) X.xe s := ⟨TW.run⟩
theorem tw_pe (X : Cx) (e : Expr) : PE X e (TW X e) := ⟨fun pins s σ H Q I h => h pins s I⟩
theorem tw_of {X : Cx} {e : Expr} {t : TE} {σ : L2.St} {H : Hp} {Q : VK} (h : PE X e t) (q : t σ H Q) : TW X e σ H Q := TW.mk fun pins s I => h.run pins s σ H Q I q
/-- a two-place operation by values, a one-place one, a call, a truth -/
structure TO (X : Cx) (σ : L2.St) (f : Value → Value → Sem Value) (x y : V) (H : Hp) (Q : VK) : Prop where
  run : ∀ (pins : List (Addr × Obj)) (s : Shared) (v u : Value), Inv X pins σ H s → RelV x v → RelV y u → wpAny (model X.prog X.w) X.A (f v u) (EP X pins σ Q) X.xe s
instance {X : Cx} {σ : L2.St} {f : Value → Value → Sem Value} {x y : V} {H : Hp} {Q : VK} : CoeFun (TO X σ f x y H Q) fun _ => ∀ (pins : List (Addr × Obj)) (s : Shared) (v u : Value), Inv X pins σ H s → RelV x v → RelV y u → wpAny (model X.prog X.w) X.A (f v u) (EP X pins σ Q) X.xe s := ⟨TO.run⟩
structure TU (X : Cx) (σ : L2.St) (f : Value → Sem Value) (x : V) (H : Hp) (Q : VK) : Prop where
  run : ∀ (pins : List (Addr × Obj)) (s : Shared) (v : Value), Inv X pins σ H s → RelV x v → wpAny (model X.prog X.w) X.A (f v) (EP X pins σ Q) X.xe s
instance {X : Cx} {σ : L2.St} {f : Value → Sem Value} {x : V} {H : Hp} {Q : VK} : CoeFun (TU X σ f x H Q) fun _ => ∀ (pins : List (Addr × Obj)) (s : Shared) (v : Value), Inv X pins σ H s → RelV x v → wpAny (model X.prog X.w) X.A (f v) (EP X pins σ Q) X.xe s := ⟨TU.run⟩
structure TC (X : Cx) (σ : L2.St) (f : Value) (xs : List V) (H : Hp) (Q : VK) : Prop where
  run : ∀ (pins : List (Addr × Obj)) (s : Shared) (us : List Value), Inv X pins σ H s → Vals xs us → wpAny (model X.prog X.w) X.A (call f us) (EP X pins σ Q) X.xe s
instance {X : Cx} {σ : L2.St} {f : Value} {xs : List V} {H : Hp} {Q : VK} : CoeFun (TC X σ f xs H Q) fun _ => ∀ (pins : List (Addr × Obj)) (s : Shared) (us : List Value), Inv X pins σ H s → Vals xs us → wpAny (model X.prog X.w) X.A (call f us) (EP X pins σ Q) X.xe s := ⟨TC.run⟩
structure TB (X : Cx) (σ : L2.St) (x : V) (H : Hp) (Q : Bool → Hp → Prop) : Prop where
  run : ∀ (pins : List (Addr × Obj)) (s : Shared) (v : Value), Inv X pins σ H s → RelV x v → wpAny (model X.prog X.w) X.A (truthy v) (TP X pins σ Q) X.xe s
instance {X : Cx} {σ : L2.St} {x : V} {H : Hp} {Q : Bool → Hp → Prop} : CoeFun (TB X σ x H Q) fun _ => ∀ (pins : List (Addr × Obj)) (s : Shared) (v : Value), Inv X pins σ H s → RelV x v → wpAny (model X.prog X.w) X.A (truthy v) (TP X pins σ Q) X.xe s := ⟨TB.run⟩
theorem to_of {X : Cx} {σ : L2.St} {f : Value → Value → Sem Value} {r : R2} {x y : V} {H : Hp} {Q : VK} (h : OpR X f r) (q : r x y H Q) : TO X σ f x y H Q := TO.mk fun pins s v u I rx ry => h pins s σ H x y v u Q I rx ry q
theorem tu_of {X : Cx} {σ : L2.St} {f : Value → Sem Value} {r : V → Hp → VK → Prop} {x : V} {H : Hp} {Q : VK} (h : UnR X f r) (q : r x H Q) : TU X σ f x H Q := TU.mk fun pins s v I rx => h pins s σ H x v Q I rx q
theorem tc_of {X : Cx} {σ : L2.St} {f : Value} {r : List V → Hp → VK → Prop} {xs : List V} {H : Hp} {Q : VK} (h : CallR X f r) (q : r xs H Q) : TC X σ f xs H Q := TC.mk fun pins s us I rx => h pins s σ H xs us Q I rx q
theorem tb_of {X : Cx} {σ : L2.St} {r : V → Hp → (Bool → Hp → Prop) → Prop} {x : V} {H : Hp} {Q : Bool → Hp → Prop} (h : TruR X r) (q : r x H Q) : TB X σ x H Q := TB.mk fun pins s v I rx => h pins s σ H x v Q I rx q
structure TWT (X : Cx) (e : Expr) (σ : L2.St) (H : Hp) (Q : Bool → Hp → Prop) : Prop where
  run : ∀ (pins : List (Addr × Obj)) (s : Shared), Inv X pins σ H s → wpAny (model X.prog X.w) X.A (PySem.isTrue e X.env (eval e X.env)) (TP X pins σ Q) X.xe s
instance {X : Cx} {e : Expr} {σ : L2.St} {H : Hp} {Q : Bool → Hp → Prop} : CoeFun (TWT X e σ H Q) fun _ => ∀ (pins : List (Addr × Obj)) (s : Shared), Inv X pins σ H s → wpAny (model X.prog X.w) X.A (PySem.isTrue e X.env (eval e X.env)) (TP X pins σ Q) X.xe s := ⟨TWT.run⟩
theorem twt_pt (X : Cx) (e : Expr) : PT X e (TWT X e) := ⟨fun pins s σ H Q I h => h pins s I⟩
theorem twt_of {X : Cx} {e : Expr} {t : TT} {σ : L2.St} {H : Hp} {Q : Bool → Hp → Prop} (h : PT X e t) (q : t σ H Q) : TWT X e σ H Q := TWT.mk fun pins s I => h.run pins s σ H Q I q
structure TWA (X : Cx) (es : List Expr) (σ : L2.St) (H : Hp) (Q : List V → Hp → Prop) : Prop where
  run : ∀ (pos : Pos) (pins : List (Addr × Obj)) (s : Shared), Inv X pins σ H s → wpAny (model X.prog X.w) X.A (spliced (backTo pos (starEach es X.env))) (AP X pins σ Q) X.xe s
instance {X : Cx} {es : List Expr} {σ : L2.St} {H : Hp} {Q : List V → Hp → Prop} : CoeFun (TWA X es σ H Q) fun _ => ∀ (pos : Pos) (pins : List (Addr × Obj)) (s : Shared), Inv X pins σ H s → wpAny (model X.prog X.w) X.A (spliced (backTo pos (starEach es X.env))) (AP X pins σ Q) X.xe s := ⟨TWA.run⟩
theorem twa_pa (X : Cx) (es : List Expr) : PA X es (TWA X es) := ⟨fun pos pins s σ H Q I h => h pos pins s I⟩
theorem twa_of {X : Cx} {es : List Expr} {t : TA} {σ : L2.St} {H : Hp} {Q : List V → Hp → Prop} (h : PA X es t) (q : t σ H Q) : TWA X es σ H Q := TWA.mk fun pos pins s I => h.run pos pins s σ H Q I q
/-! ### the judgements -/
/-- e, read where the slots hold Γ: at most c draws; its data has post -/
def DE (X : Cx) (W : WX) (c : Nat) (e : Expr) (Γ : Gm) (post : D → Prop) (xp : XP) : Prop :=
  ∀ (u : U) (n : Nat) (H : Hp) (σ : L2.St) (Q : VK), At u n H σ Γ → n + c ≤ lim → KN u (n + c) H post Q → KX u (n + c) H σ xp W → TW X e σ H Q
/-- as a test -/
def DT (X : Cx) (W : WX) (c : Nat) (e : Expr) (Γ : Gm) (post : Bool → Prop) (xp : XP) : Prop :=
  ∀ (u : U) (n : Nat) (H : Hp) (σ : L2.St) (Q : Bool → Hp → Prop), At u n H σ Γ → n + c ≤ lim → (∀ b H', Exp u.p H H' → Pen u (n + c) H' → post b → Q b H') → KX u (n + c) H σ xp W → TWT X e σ H Q
/-- arguments -/
def DA (X : Cx) (W : WX) (c : Nat) (es : List Expr) (Γ : Gm) (post : List D → Prop) (xp : XP) : Prop :=
  ∀ (u : U) (n : Nat) (H : Hp) (σ : L2.St) (Q : List V → Hp → Prop), At u n H σ Γ → n + c ≤ lim → (∀ vs ds H', Exp u.p H H' → Pen u (n + c) H' → RepL u H' ds vs → post ds → Q vs H') → KX u (n + c) H σ xp W → TWA X es σ H Q
def O2 (X : Cx) (W : WX) (c : Nat) (f : Value → Value → Sem Value) (d1 d2 : D) (post : D → Prop) (xp : XP) : Prop :=
  ∀ (u : U) (n : Nat) (H : Hp) (σ : L2.St) (x y : V) (Q : VK), Al u n H → n + c ≤ lim → Rep u H d1 x → Rep u H d2 y → KN u (n + c) H post Q → KX u (n + c) H σ xp W → TO X σ f x y H Q
def O1 (X : Cx) (W : WX) (c : Nat) (f : Value → Sem Value) (d : D) (post : D → Prop) (xp : XP) : Prop :=
  ∀ (u : U) (n : Nat) (H : Hp) (σ : L2.St) (x : V) (Q : VK), Al u n H → n + c ≤ lim → Rep u H d x → KN u (n + c) H post Q → KX u (n + c) H σ xp W → TU X σ f x H Q
def OC (X : Cx) (W : WX) (c : Nat) (f : Value) (ds : List D) (post : D → Prop) (xp : XP) : Prop :=
  ∀ (u : U) (n : Nat) (H : Hp) (σ : L2.St) (xs : List V) (Q : VK), Al u n H → n + c ≤ lim → RepL u H ds xs → KN u (n + c) H post Q → KX u (n + c) H σ xp W → TC X σ f xs H Q
def OB (X : Cx) (W : WX) (c : Nat) (d : D) (post : Bool → Prop) (xp : XP) : Prop :=
  ∀ (u : U) (n : Nat) (H : Hp) (σ : L2.St) (x : V) (Q : Bool → Hp → Prop), Al u n H → n + c ≤ lim → Rep u H d x → (∀ b H', Exp u.p H H' → Pen u (n + c) H' → post b → Q b H') → KX u (n + c) H σ xp W → TB X σ x H Q
section
variable {X : Cx} {W : WX} {c c1 c2 c3 : Nat} {Γ : Gm} {post : D → Prop} {xp : XP} {a b e : Expr} {pos : Pos}
theorem de_le (h : DE X W c e Γ post xp) (hc : c ≤ c1) : DE X W c1 e Γ post xp := fun u n H σ Q A hn kn kx =>
  h u n H σ Q A (by omega) (fun v d H' e p r q => kn v d H' e (p.up (by omega)) r q) (kx.go Exp.refl (by omega))
theorem de_imp {post' : D → Prop} (h : DE X W c e Γ post xp) (hp : ∀ d, post d → post' d) : DE X W c e Γ post' xp := fun u n H σ Q A hn kn kx =>
  h u n H σ Q A hn (fun v d H' e p r q => kn v d H' e p r (hp d q)) kx
theorem da_le {es : List Expr} {post : List D → Prop} (h : DA X W c es Γ post xp) (hc : c ≤ c1) : DA X W c1 es Γ post xp := fun u n H σ Q A hn kn kx =>
  h u n H σ Q A (by omega) (fun v d H' e p r q => kn v d H' e (p.up (by omega)) r q) (kx.go Exp.refl (by omega))
theorem dt_le {post : Bool → Prop} (h : DT X W c e Γ post xp) (hc : c ≤ c1) : DT X W c1 e Γ post xp := fun u n H σ Q A hn kn kx =>
  h u n H σ Q A (by omega) (fun v H' e p q => kn v H' e (p.up (by omega)) q) (kx.go Exp.refl (by omega))
/-- a value that stands already -/
theorem KN.here {u : U} {n : Nat} {H : Hp} {Q : VK} (k : KN u n H post Q) {d : D} {v : V} (A : Al u n H) (r : Rep u H d v) (q : post d) : Q v H := k v d H Exp.refl A.pen r q
theorem KN.go {u : U} {n m : Nat} {H H' : Hp} {Q : VK} (k : KN u n H post Q) (e : Exp u.p H H') (hm : m ≤ n) : KN u m H' post Q := fun v d H2 e2 p r q => k v d H2 (e.trans e2) (p.up hm) r q
theorem de_var (i : Nat) {d : D} {x : Str} (h : Γ[i]? = some (.va d)) (q : post d) (hN : X.N[i]? = some x := by rfl) (hv : Vis X.env.scope x := by first | exact Or.inl rfl | exact Or.inr (Or.inl rfl) | exact Or.inr (Or.inr rfl))
    (hd : (x == ("__debug__" : Str)) = false := by decide) (hcd : (x == ("__classdict__" : Str)) = false := by decide) : DE X W 0 (.Name x pos) Γ post xp := fun u n H σ Q A hn kn kx => by
  obtain ⟨v, e, r⟩ := A.sl i _ h
  exact tw_of (pe_var hN hv hd hcd) ⟨v, e, kn.here A.toAl r q⟩
theorem de_int {i : Int} {j} (q : post (.int i)) : DE X W 0 (.Constant (.int i) j pos) Γ post xp := fun u n H σ Q A hn kn kx => tw_of pe_int (kn.here (d := .int i) A.toAl rfl q)
theorem de_str {i : Str} {j} (q : post (.str i)) : DE X W 0 (.Constant (.str i) j pos) Γ post xp := fun u n H σ Q A hn kn kx => tw_of pe_str (kn.here (d := .str i) A.toAl rfl q)
theorem de_bl {i : Bool} {j} (q : post (.bl i)) : DE X W 0 (.Constant (.bool i) j pos) Γ post xp := fun u n H σ Q A hn kn kx => tw_of pe_bl (kn.here (d := .bl i) A.toAl rfl q)
theorem de_non {j} (q : post .non) : DE X W 0 (.Constant .none j pos) Γ post xp := fun u n H σ Q A hn kn kx => tw_of pe_non (kn.here (d := .non) A.toAl rfl q)
theorem de_gint {x : Str} {i : Int} {t : Tok} (hm : X.mg x = some (.int i t)) (q : post (.int i)) (hg : Gl X x := by rfl) (hd : (x == ("__debug__" : Str)) = false := by decide) : DE X W 0 (.Name x pos) Γ post xp := fun u n H σ Q A hn kn kx =>
  tw_of (pe_glob hg hm (v := .int i) ⟨t, rfl⟩ hd) (kn.here (d := .int i) A.toAl rfl q)
theorem de_gstr {x : Str} {i : Str} {t : Tok} (hm : X.mg x = some (.str i t)) (q : post (.str i)) (hg : Gl X x := by rfl) (hd : (x == ("__debug__" : Str)) = false := by decide) : DE X W 0 (.Name x pos) Γ post xp := fun u n H σ Q A hn kn kx =>
  tw_of (pe_glob hg hm (v := .str i) ⟨t, rfl⟩ hd) (kn.here (d := .str i) A.toAl rfl q)
theorem de_gref {x : Str} {a : Addr} (hm : X.mg x = some (.ref a)) (q : post (.ref a)) (hg : Gl X x := by rfl) (hd : (x == ("__debug__" : Str)) = false := by decide) : DE X W 0 (.Name x pos) Γ post xp := fun u n H σ Q A hn kn kx =>
  tw_of (pe_glob hg hm (v := .ref a) rfl hd) (kn.here (d := .ref a) A.toAl rfl q)
/-! ### operators -/
theorem de_bin {op : Operator} (h : DE X W c1 a Γ (fun d1 => DE X W c2 b Γ (fun d2 => O2 X W c3 (binaryOp op) d1 d2 post xp) xp) xp) : DE X W (c1 + c2 + c3) (.BinOp a op b pos) Γ post xp := fun u n H σ Q A hn kn kx => TW.mk fun pins s I => by
  refine wpAny_BinOp (thn (h u n H σ (fun x H1 => ∀ s1 v, Inv X pins σ H1 s1 → RelV x v → wpAny (model X.prog X.w) X.A (eval b X.env) (fun y s₂ => wpAny (model X.prog X.w) X.A (binaryOp op v y) (EP X pins σ Q) X.xe s₂) X.xe s1) A (by omega) (fun x d1 H1 e1 p1 r1 q1 s1 v I1 rv => ?_) (kx.go Exp.refl (by omega)) pins s I) fun v s1 ⟨x, H1, I1, rv, q⟩ => q s1 v I1 rv)
  refine thn (q1 u (n + c1) H1 σ (fun y H2 => ∀ s2 w, Inv X pins σ H2 s2 → RelV y w → wpAny (model X.prog X.w) X.A (binaryOp op v w) (EP X pins σ Q) X.xe s2) (A.step e1 p1) (by omega) (fun y d2 H2 e2 p2 r2 q2 s2 w I2 rw' => ?_) (kx.go e1 (by omega)) pins s1 I1) fun w s2 ⟨y, H2, I2, rw', q⟩ => q s2 w I2 rw'
  have A1 := A.toAl.step e1 p1
  exact q2 u (n + c1 + c2) H2 σ x y Q (A1.step e2 p2) (by omega) (r1.go A1 e2) r2 (kn.go (e1.trans e2) (by omega)) (kx.go (e1.trans e2) (by omega)) pins s2 v w I2 rv rw'
theorem de_cmp {op : CmpOp} (h : DE X W c1 a Γ (fun d1 => DE X W c2 b Γ (fun d2 => O2 X W c3 (compareOp op) d1 d2 post xp) xp) xp) (hm : behindInMarks op b = false := by first | exact nomark _ | with_unfolding_all rfl) : DE X W (c1 + c2 + c3) (.Compare a [op] [b] pos) Γ post xp := fun u n H σ Q A hn kn kx => TW.mk fun pins s I => by
  refine wpAny_Compare1 (thn (h u n H σ (fun x H1 => ∀ s1 v, Inv X pins σ H1 s1 → RelV x v → wpAny (model X.prog X.w) X.A (eval b X.env) (fun y s₂ => wpAny (model X.prog X.w) X.A (compareOp op v y) (EP X pins σ Q) X.xe s₂) X.xe s1) A (by omega) (fun x d1 H1 e1 p1 r1 q1 s1 v I1 rv => ?_) (kx.go Exp.refl (by omega)) pins s I) fun v s1 ⟨x, H1, I1, rv, q⟩ => q s1 v I1 rv) hm
  refine thn (q1 u (n + c1) H1 σ (fun y H2 => ∀ s2 w, Inv X pins σ H2 s2 → RelV y w → wpAny (model X.prog X.w) X.A (compareOp op v w) (EP X pins σ Q) X.xe s2) (A.step e1 p1) (by omega) (fun y d2 H2 e2 p2 r2 q2 s2 w I2 rw' => ?_) (kx.go e1 (by omega)) pins s1 I1) fun w s2 ⟨y, H2, I2, rw', q⟩ => q s2 w I2 rw'
  have A1 := A.toAl.step e1 p1
  exact q2 u (n + c1 + c2) H2 σ x y Q (A1.step e2 p2) (by omega) (r1.go A1 e2) r2 (kn.go (e1.trans e2) (by omega)) (kx.go (e1.trans e2) (by omega)) pins s2 v w I2 rv rw'
theorem de_un {op : UnaryOp} (h : DE X W c1 a Γ (fun d => O1 X W c2 (unaryOp op) d post xp) xp) : DE X W (c1 + c2) (.UnaryOp op a pos) Γ post xp := fun u n H σ Q A hn kn kx => TW.mk fun pins s I => by
  refine UnaryOp_ (thn (h u n H σ (fun x H1 => ∀ s1 v, Inv X pins σ H1 s1 → RelV x v → wpAny (model X.prog X.w) X.A (unaryOp op v) (EP X pins σ Q) X.xe s1) A (by omega) (fun x d1 H1 e1 p1 r1 q1 s1 v I1 rv => ?_) (kx.go Exp.refl (by omega)) pins s I) fun v s1 ⟨x, H1, I1, rv, q⟩ => q s1 v I1 rv)
  exact q1 u (n + c1) H1 σ x Q (A.toAl.step e1 p1) (by omega) r1 (kn.go e1 (by omega)) (kx.go e1 (by omega)) pins s1 v I1 rv
end
end Dx
-- DxC
namespace Dx
open PySem PySem.Spec PyProof.Rows L2
section
variable {X : Cx} {W : WX} {c c1 c2 c3 : Nat} {Γ : Gm} {post : D → Prop} {xp : XP} {a b e : Expr} {pos : Pos}
/-! ### a new object -/
theorem KN.tup {u : U} {n : Nat} {H : Hp} {Q : VK} (k : KN u n H post Q) (A : Al u n H) {ds : List D} {vs : List V} (r : RepL u H ds vs) (q : post (.tup ds)) {p : Addr} (hp : H p = none) : Q (.ref p) (upd H p (.tup vs)) :=
  k (.ref p) (.tup ds) _ (Exp.new hp) (A.newp hp) ⟨p, vs, rfl, A.notF hp, upd_same, r.go A (Exp.new hp)⟩ q
theorem KN.lst {u : U} {n : Nat} {H : Hp} {Q : VK} (k : KN u n H post Q) (A : Al u n H) {ds : List D} {vs : List V} (r : RepL u H ds vs) (q : post (.lst ds)) {p : Addr} (hp : H p = none) : Q (.ref p) (upd H p (.lst vs)) :=
  k (.ref p) (.lst ds) _ (Exp.new hp) (A.newp hp) ⟨p, vs, rfl, A.notF hp, upd_same, r.go A (Exp.new hp)⟩ q
theorem KN.dic {u : U} {n : Nat} {H : Hp} {Q : VK} (k : KN u n H post Q) (A : Al u n H) {ds : List (Key × D)} {vs : List (Key × V)} (r : RepK u H ds vs) (q : post (.dic ds)) {p : Addr} (hp : H p = none) : Q (.ref p) (upd H p (.dK vs)) :=
  k (.ref p) (.dic ds) _ (Exp.new hp) (A.newp hp) ⟨p, vs, rfl, A.notF hp, upd_same, r.go A (Exp.new hp)⟩ q
theorem RepL.length {u : U} {H : Hp} : ∀ {ds : List D} {vs : List V}, RepL u H ds vs → vs.length = ds.length
  | [], vs, h => by rw [show vs = [] from h]; rfl
  | d :: ds, vs, h => by
    obtain ⟨v, r, e, _, b⟩ := (show ∃ v r, vs = v :: r ∧ Rep u H d v ∧ RepL u H ds r from h)
    rw [e, List.length_cons, List.length_cons, RepL.length b]
theorem RepL.nil {u : U} {H : Hp} : RepL u H [] [] := rfl
theorem RepL.cons {u : U} {H : Hp} {d : D} {v : V} {ds : List D} {vs : List V} (a : Rep u H d v) (b : RepL u H ds vs) : RepL u H (d :: ds) (v :: vs) := ⟨v, vs, rfl, a, b⟩
theorem RepL.uncons {u : U} {H : Hp} {d : D} {ds : List D} {vs : List V} (h : RepL u H (d :: ds) vs) : ∃ v r, vs = v :: r ∧ Rep u H d v ∧ RepL u H ds r := h
theorem RepL.append {u : U} {H : Hp} : ∀ {ds es : List D} {vs ws : List V}, RepL u H ds vs → RepL u H es ws → RepL u H (ds ++ es) (vs ++ ws)
  | [], es, vs, ws, h, k => by rw [show vs = [] from h]; exact k
  | d :: ds, es, vs, ws, h, k => by
    obtain ⟨v, r, e, a, b⟩ := h.uncons
    rw [e]; exact RepL.cons a (RepL.append b k)
theorem RepL.get {u : U} {H : Hp} : ∀ {ds : List D} {vs : List V} {i : Nat} {d : D}, RepL u H ds vs → ds[i]? = some d → ∃ v, vs[i]? = some v ∧ Rep u H d v
  | [], _, _, _, _, h => by simp at h
  | d :: ds, vs, 0, d', h, g => by
    obtain ⟨v, r, e, a, b⟩ := h.uncons
    have g : d = d' := by simpa using g
    subst g; rw [e]; exact ⟨v, rfl, a⟩
  | d :: ds, vs, i + 1, d', h, g => by
    obtain ⟨v, r, e, a, b⟩ := h.uncons
    have g : ds[i]? = some d' := by simpa using g
    obtain ⟨w, h1, h2⟩ := RepL.get b g
    rw [e]; exact ⟨w, by simpa using h1, h2⟩
theorem RepL.getV {u : U} {H : Hp} {ds : List D} {vs : List V} {i : Nat} {v : V} (h : RepL u H ds vs) (g : vs[i]? = some v) : ∃ d, ds[i]? = some d ∧ Rep u H d v := by
  have hl := h.length
  have hi : i < vs.length := (List.getElem?_eq_some_iff.mp g).1
  have hd : ds[i]? = some (ds[i]'(by omega)) := List.getElem?_eq_getElem (by omega)
  obtain ⟨w, h1, h2⟩ := h.get hd
  rw [g] at h1; cases h1
  exact ⟨_, hd, h2⟩
theorem RepL.drop {u : U} {H : Hp} : ∀ {ds : List D} {vs : List V} (n : Nat), RepL u H ds vs → RepL u H (ds.drop n) (vs.drop n)
  | _, _, 0, h => by simpa using h
  | [], vs, n + 1, h => by rw [show vs = [] from h]; exact RepL.nil
  | d :: ds, vs, n + 1, h => by
    obtain ⟨v, r, e, a, b⟩ := h.uncons
    rw [e]; simpa using RepL.drop n b
theorem RepL.take {u : U} {H : Hp} : ∀ {ds : List D} {vs : List V} (n : Nat), RepL u H ds vs → RepL u H (ds.take n) (vs.take n)
  | _, _, 0, h => by simpa using RepL.nil
  | [], vs, n + 1, h => by rw [show vs = [] from h]; exact RepL.nil
  | d :: ds, vs, n + 1, h => by
    obtain ⟨v, r, e, a, b⟩ := h.uncons
    rw [e]; simpa using RepL.cons a (RepL.take n b)
theorem RepL.ints {u : U} {H : Hp} : ∀ {ns : List Int} {vs : List V}, RepL u H (ns.map D.int) vs → vs = ns.map V.int
  | [], vs, h => h
  | n :: ns, vs, h => by
    obtain ⟨v, r, e, a, b⟩ := (show RepL u H (D.int n :: ns.map D.int) vs from h).uncons
    rw [e, RepL.ints b, show v = V.int n from a]; rfl
theorem RepL.ofInts {u : U} {H : Hp} : ∀ {ns : List Int}, RepL u H (ns.map D.int) (ns.map V.int)
  | [] => RepL.nil
  | n :: ns => RepL.cons (rfl : Rep u H (.int n) (.int n)) RepL.ofInts
theorem RepL.strs {u : U} {H : Hp} : ∀ {ns : List Str} {vs : List V}, RepL u H (ns.map D.str) vs → vs = ns.map V.str
  | [], vs, h => h
  | n :: ns, vs, h => by
    obtain ⟨v, r, e, a, b⟩ := (show RepL u H (D.str n :: ns.map D.str) vs from h).uncons
    rw [e, RepL.strs b, show v = V.str n from a]; rfl
theorem RepL.ofStrs {u : U} {H : Hp} : ∀ {ns : List Str}, RepL u H (ns.map D.str) (ns.map V.str)
  | [] => RepL.nil
  | n :: ns => RepL.cons (rfl : Rep u H (.str n) (.str n)) RepL.ofStrs
theorem RepL.bools {u : U} {H : Hp} : ∀ {ns : List Bool} {vs : List V}, RepL u H (ns.map D.bl) vs → vs = ns.map V.bl
  | [], vs, h => h
  | n :: ns, vs, h => by
    obtain ⟨v, r, e, a, b⟩ := (show RepL u H (D.bl n :: ns.map D.bl) vs from h).uncons
    rw [e, RepL.bools b, show v = V.bl n from a]; rfl
/-! ### operators on data -/
/-- no draw, nothing raised: a rule of the layer that leaves a value without a place -/
theorem o2_of {f : Value → Value → Sem Value} {d1 d2 d : D} {r : R2} (h : OpR X f r) (hr : ∀ (u : U) (H : Hp) (x y : V) (Q : VK), Rep u H d1 x → Rep u H d2 y → (∀ v, Rep u H d v → Q v H) → r x y H Q) (q : post d) : O2 X W 0 f d1 d2 post xp :=
  fun u n H σ x y Q A hn rx ry kn kx => to_of h (hr u H x y Q rx ry fun v rv => kn.here A rv q)
theorem o1_of {f : Value → Sem Value} {d1 d : D} {r : V → Hp → VK → Prop} (h : UnR X f r) (hr : ∀ (u : U) (H : Hp) (x : V) (Q : VK), Rep u H d1 x → (∀ v, Rep u H d v → Q v H) → r x H Q) (q : post d) : O1 X W 0 f d1 post xp :=
  fun u n H σ x Q A hn rx kn kx => tu_of h (hr u H x Q rx fun v rv => kn.here A rv q)
theorem o2_I0 {f : Value → Value → Sem Value} {g : Int → Int → V} {i j : Int} {d : D} (h : OpR X f (rI0 g)) (hg : ∀ u H, Rep u H d (g i j)) (q : post d) : O2 X W 0 f (.int i) (.int j) post xp :=
  o2_of h (fun u H x y Q rx ry k => ⟨i, j, rx, ry, k _ (hg u H)⟩) q
theorem o2_I {f : Value → Value → Sem Value} {C : Int → Int → Prop} {g : Int → Int → V} {i j : Int} {d : D} (h : OpR X f (rI C g)) (hc : C i j) (hg : ∀ u H, Rep u H d (g i j)) (q : post d) : O2 X W 0 f (.int i) (.int j) post xp :=
  o2_of h (fun u H x y Q rx ry k => ⟨i, j, rx, ry, hc, k _ (hg u H)⟩) q
theorem o2_add {i j : Int} (q : post (.int (i + j))) : O2 X W 0 (binaryOp .Add) (.int i) (.int j) post xp := o2_I0 (d := .int (i + j)) op_add (fun _ _ => rfl) q
theorem o2_sub {i j : Int} (q : post (.int (i - j))) : O2 X W 0 (binaryOp .Sub) (.int i) (.int j) post xp := o2_I0 (d := .int (i - j)) op_sub (fun _ _ => rfl) q
theorem o2_mul {i j : Int} (hc : CMul i j) (q : post (.int (i * j))) : O2 X W 0 (binaryOp .Mult) (.int i) (.int j) post xp := o2_I (d := .int (i * j)) op_mul hc (fun _ _ => rfl) q
theorem o2_mod {i j : Int} (hc : 0 < j) (q : post (.int (i % j))) : O2 X W 0 (binaryOp .Mod) (.int i) (.int j) post xp := o2_I (d := .int (i % j)) op_mod hc (fun _ _ => rfl) q
theorem o2_fdiv {i j : Int} (hc : CDiv i j) (q : post (.int (i / j))) : O2 X W 0 (binaryOp .FloorDiv) (.int i) (.int j) post xp := o2_I (d := .int (i / j)) op_fdiv hc (fun _ _ => rfl) q
theorem o2_pow {i j : Int} (hc : CPow i j) (q : post (.int (i ^ j.toNat))) : O2 X W 0 (binaryOp .Pow) (.int i) (.int j) post xp := o2_I (d := .int (i ^ j.toNat)) op_pow hc (fun _ _ => rfl) q
theorem o2_lt {i j : Int} (q : post (.bl (decide (i < j)))) : O2 X W 0 (compareOp .Lt) (.int i) (.int j) post xp := o2_I0 (d := .bl (decide (i < j))) op_lt (fun _ _ => rfl) q
theorem o2_le {i j : Int} (q : post (.bl (decide (i ≤ j)))) : O2 X W 0 (compareOp .LtE) (.int i) (.int j) post xp := o2_I0 (d := .bl (decide (i ≤ j))) op_le (fun _ _ => rfl) q
theorem o2_gt {i j : Int} (q : post (.bl (decide (j < i)))) : O2 X W 0 (compareOp .Gt) (.int i) (.int j) post xp := o2_I0 (d := .bl (decide (j < i))) op_gt (fun _ _ => rfl) q
theorem o2_ge {i j : Int} (q : post (.bl (decide (j ≤ i)))) : O2 X W 0 (compareOp .GtE) (.int i) (.int j) post xp := o2_I0 (d := .bl (decide (j ≤ i))) op_ge (fun _ _ => rfl) q
theorem o2_cat {i j : Str} (hz : i.length + j.length ≤ sizeLine) (q : post (.str (i ++ j))) : O2 X W 0 (binaryOp .Add) (.str i) (.str j) post xp :=
  o2_of (d := .str (i ++ j)) op_add_str (fun u H x y Q rx ry k => ⟨i, j, rx, ry, hz, k _ rfl⟩) q
/-- == and != of scalars -/
def scv : D → Option V
  | .non => some .non | .bl b => some (.bl b) | .int i => some (.int i) | .str x => some (.str x) | _ => none
theorem scv_rep {u : U} {H : Hp} {d : D} {v w : V} (h : scv d = some v) (r : Rep u H d w) : w = v := by
  cases d <;> simp [scv] at h <;> subst h <;> exact r
theorem o2_eq {d1 d2 : D} {v1 v2 : V} (h1 : scv d1 = some v1) (h2 : scv d2 = some v2) (hs : scal v1 v2 = true) (q : post (.bl (decide (v1 = v2)))) : O2 X W 0 (compareOp .Eq) d1 d2 post xp :=
  o2_of (d := .bl (decide (v1 = v2))) op_eq (fun u H x y Q rx ry k => by rw [scv_rep h1 rx, scv_rep h2 ry]; exact ⟨hs, k _ rfl⟩) q
theorem o2_ne {d1 d2 : D} {v1 v2 : V} (h1 : scv d1 = some v1) (h2 : scv d2 = some v2) (hs : scal v1 v2 = true) (q : post (.bl (!decide (v1 = v2)))) : O2 X W 0 (compareOp .NotEq) d1 d2 post xp :=
  o2_of (d := .bl (!decide (v1 = v2))) op_ne (fun u H x y Q rx ry k => by rw [scv_rep h1 rx, scv_rep h2 ry]; exact ⟨hs, k _ rfl⟩) q
theorem o2_eqI {i j : Int} (q : post (.bl (decide (i = j)))) : O2 X W 0 (compareOp .Eq) (.int i) (.int j) post xp := o2_eq rfl rfl rfl (by rw [dec_int, Bool.beq_eq_decide_eq]; exact q)
theorem o2_neI {i j : Int} (q : post (.bl (!decide (i = j)))) : O2 X W 0 (compareOp .NotEq) (.int i) (.int j) post xp := o2_ne rfl rfl rfl (by rw [dec_int, Bool.beq_eq_decide_eq]; exact q)
theorem o2_eqS {i j : Str} (q : post (.bl (decide (i = j)))) : O2 X W 0 (compareOp .Eq) (.str i) (.str j) post xp := o2_eq rfl rfl rfl (by rw [dec_str, Bool.beq_eq_decide_eq]; exact q)
theorem o2_neS {i j : Str} (q : post (.bl (!decide (i = j)))) : O2 X W 0 (compareOp .NotEq) (.str i) (.str j) post xp := o2_ne rfl rfl rfl (by rw [dec_str, Bool.beq_eq_decide_eq]; exact q)
theorem o2_eqB {i j : Bool} (q : post (.bl (i == j))) : O2 X W 0 (compareOp .Eq) (.bl i) (.bl j) post xp := o2_eq rfl rfl rfl (by rw [dec_bl]; exact q)
theorem o2_neB {i j : Bool} (q : post (.bl (!(i == j)))) : O2 X W 0 (compareOp .NotEq) (.bl i) (.bl j) post xp := o2_ne rfl rfl rfl (by rw [dec_bl]; exact q)
/-- is None -/
def D.isN : D → Bool | .non => true | _ => false
theorem rep_isN {u : U} {H : Hp} {d : D} {v : V} (r : Rep u H d v) : decide (v = .non) = d.isN := by
  cases d with
  | non => rw [show v = .non from r]; rfl
  | bl b => rw [show v = .bl b from r]; rfl
  | int b => rw [show v = .int b from r]; rfl
  | str b => rw [show v = .str b from r]; rfl
  | pen => rw [show v = .ref u.p from r]; rfl
  | ref b => rw [show v = .ref b from r]; rfl
  | ty b => rw [show v = .ty b from r]; rfl
  | tup b => obtain ⟨a, _, e, _⟩ := (show ∃ a vs, v = .ref a ∧ ¬ u.F a ∧ H a = some (.tup vs) ∧ RepL u H b vs from r); rw [e]; rfl
  | lst b => obtain ⟨a, _, e, _⟩ := (show ∃ a vs, v = .ref a ∧ ¬ u.F a ∧ H a = some (.lst vs) ∧ RepL u H b vs from r); rw [e]; rfl
  | dic b => obtain ⟨a, _, e, _⟩ := (show ∃ a vs, v = .ref a ∧ ¬ u.F a ∧ H a = some (.dK vs) ∧ RepK u H b vs from r); rw [e]; rfl
  | obj C b => obtain ⟨a, _, _, e, _⟩ := (show ∃ a dx us, v = .ref a ∧ ¬ u.F a ∧ H a = some (.ins C dx us) ∧ RepF u H b us from r); rw [e]; rfl
theorem o2_isN {d1 : D} (q : post (.bl d1.isN)) : O2 X W 0 (compareOp .Is) d1 .non post xp :=
  o2_of (d := .bl d1.isN) op_isN (fun u H x y Q rx ry k => ⟨ry, by rw [rep_isN rx]; exact k _ rfl⟩) q
theorem o2_notN {d1 : D} (q : post (.bl (!d1.isN))) : O2 X W 0 (compareOp .IsNot) d1 .non post xp :=
  o2_of (d := .bl (!d1.isN)) op_notN (fun u H x y Q rx ry k => ⟨ry, by rw [rep_isN rx]; exact k _ rfl⟩) q
/-- a sign in a text; a text in a text -/
theorem o2_inC {ch : Nat} {z : Str} (q : post (.bl (decide (ch ∈ z.cps.toList)))) : O2 X W 0 (compareOp .In) (.str ⟨#[ch]⟩) (.str z) post xp :=
  o2_of (d := .bl (decide (ch ∈ z.cps.toList))) op_in_sign (fun u H x y Q rx ry k => ⟨ch, z, rx, ry, k _ rfl⟩) q
theorem o2_ninC {ch : Nat} {z : Str} (q : post (.bl (!decide (ch ∈ z.cps.toList)))) : O2 X W 0 (compareOp .NotIn) (.str ⟨#[ch]⟩) (.str z) post xp :=
  o2_of (d := .bl (!decide (ch ∈ z.cps.toList))) op_notIn_sign (fun u H x y Q rx ry k => ⟨ch, z, rx, ry, k _ rfl⟩) q
theorem o1_neg {i : Int} (q : post (.int (-i))) : O1 X W 0 (unaryOp .USub) (.int i) post xp := o1_of (d := .int (-i)) un_neg (fun u H x Q rx k => ⟨i, rx, k _ rfl⟩) q
/-- lists put together -/
theorem o2_catL {ds es : List D} (hz : ds.length + es.length ≤ sizeLine) (q : post (.lst (ds ++ es))) : O2 X W 0 (binaryOp .Add) (.lst ds) (.lst es) post xp := fun u n H σ x y Q A hn rx ry kn kx => by
  obtain ⟨p, vs, e1, f1, g1, r1⟩ := (show ∃ a vs, x = .ref a ∧ ¬ u.F a ∧ H a = some (.lst vs) ∧ RepL u H ds vs from rx)
  obtain ⟨p2, ws, e2, f2, g2, r2⟩ := (show ∃ a vs, y = .ref a ∧ ¬ u.F a ∧ H a = some (.lst vs) ∧ RepL u H es vs from ry)
  have l1 := r1.length
  have l2 := r2.length
  refine to_of op_cat ?_
  subst e1; subst e2
  exact ⟨p, p2, vs, ws, rfl, rfl, g1, g2, by omega, fun q' hq => kn.lst A (r1.append r2) q hq⟩
end
end Dx
-- DxD
namespace Dx
open PySem PySem.Spec PyProof.Rows L2
section
variable {X : Cx} {W : WX} {c c1 c2 c3 : Nat} {Γ : Gm} {post : D → Prop} {pb : Bool → Prop} {xp : XP} {a b e : Expr} {pos : Pos}
/-! ### tests -/
theorem TB.ok {σ : L2.St} {x : V} {H : Hp} {k : Bool} {Q : Bool → Hp → Prop} (h : TruV X.K x H k) (q : Q k H) : TB X σ x H Q := tb_of tru_ok ⟨k, h, q⟩
theorem ob_bl {k : Bool} (q : pb k) : OB X W 0 (.bl k) pb xp := fun u n H σ x Q A hn rx kn kx => by
  rw [show x = .bl k from rx]; exact TB.ok (k := k) rfl (kn k H Exp.refl A.pen q)
theorem ob_int {i : Int} (q : pb (i != 0)) : OB X W 0 (.int i) pb xp := fun u n H σ x Q A hn rx kn kx => by
  rw [show x = .int i from rx]; exact TB.ok (k := i != 0) rfl (kn _ H Exp.refl A.pen q)
theorem ob_lst {ds : List D} (q : pb (!ds.isEmpty)) : OB X W 0 (.lst ds) pb xp := fun u n H σ x Q A hn rx kn kx => by
  obtain ⟨p, vs, e, f, g, r⟩ := (show ∃ a vs, x = .ref a ∧ ¬ u.F a ∧ H a = some (.lst vs) ∧ RepL u H ds vs from rx)
  have hl := r.length
  have he : vs.isEmpty = ds.isEmpty := by cases vs <;> cases ds <;> simp_all
  rw [e]; exact TB.ok (k := !vs.isEmpty) (.inl ⟨vs, SqL.of g, rfl⟩) (kn _ H Exp.refl A.pen (by rw [he]; exact q))
/-- a value's truth as a test (the expression is no comparison, no and, or, not) -/
theorem dt_val (h : DE X W c1 e Γ (fun d => OB X W c2 d pb xp) xp) (he : ∀ whole, isTrue e X.env whole = (do let v ← whole; standAt e.pos; holding [v] (truthy v)) := by intro _; rfl) : DT X W (c1 + c2) e Γ pb xp := fun u n H σ Q A hn kn kx => TWT.mk fun pins s I => by
  rw [he]
  refine wpAny_bind (thn (h u n H σ (fun x H1 => ∀ s1 v, Inv X pins σ H1 s1 → RelV x v → wpAny (model X.prog X.w) X.A (truthy v) (TP X pins σ Q) X.xe s1) A (by omega) (fun x d1 H1 e1 p1 r1 q1 s1 v I1 rv => ?_) (kx.go Exp.refl (by omega)) pins s I) fun v s1 ⟨x, H1, I1, rv, q⟩ => wpAny_bind (wpAny_standAt (wpAny_holding (q s1 v I1 rv))))
  exact q1 u (n + c1) H1 σ x Q (A.toAl.step e1 p1) (by omega) r1 (fun b H2 e2 p2 q2 => kn b H2 (e1.trans e2) (p2.up (by omega)) q2) (kx.go e1 (by omega)) pins s1 v I1 rv
def PB (pb : Bool → Prop) : D → Prop := fun d => ∃ k, d = .bl k ∧ pb k
theorem PB.i {k : Bool} (h : pb k) : PB pb (.bl k) := ⟨k, rfl, h⟩
theorem dt_cmp {op : CmpOp} (h : DE X W c1 a Γ (fun d1 => DE X W c2 b Γ (fun d2 => O2 X W c3 (compareOp op) d1 d2 (PB pb) xp) xp) xp) (hm : behindInMarks op b = false := by first | exact nomark _ | with_unfolding_all rfl) : DT X W (c1 + c2 + c3) (.Compare a [op] [b] pos) Γ pb xp := fun u n H σ Q A hn kn kx => TWT.mk fun pins s I => by
  refine wpAny_isTrue_Compare1 (thn (h u n H σ (fun x H1 => ∀ s1 v, Inv X pins σ H1 s1 → RelV x v → wpAny (model X.prog X.w) X.A (eval b X.env) (fun y s₂ => wpAny (model X.prog X.w) X.A (compareOp op v y) (fun z s3 => ∃ k, z = .bool k ∧ TP X pins σ Q k s3) X.xe s₂) X.xe s1) A (by omega) (fun x d1 H1 e1 p1 r1 q1 s1 v I1 rv => ?_) (kx.go Exp.refl (by omega)) pins s I) fun v s1 ⟨x, H1, I1, rv, q⟩ => thn (q s1 v I1 rv) fun w s2 hw => thn hw fun z s3 ⟨k, ez, hz⟩ => ?_) hm
  · refine thn (q1 u (n + c1) H1 σ (fun y H2 => ∀ s2 w, Inv X pins σ H2 s2 → RelV y w → wpAny (model X.prog X.w) X.A (compareOp op v w) (fun z s3 => ∃ k, z = .bool k ∧ TP X pins σ Q k s3) X.xe s2) (A.step e1 p1) (by omega) (fun y d2 H2 e2 p2 r2 q2 s2 w I2 rw' => ?_) (kx.go e1 (by omega)) pins s1 I1) fun w s2 ⟨y, H2, I2, rw', q⟩ => q s2 w I2 rw'
    have A1 := A.toAl.step e1 p1
    refine thn (q2 u (n + c1 + c2) H2 σ x y (fun z H3 => ∃ k, z = .bl k ∧ Q k H3) (A1.step e2 p2) (by omega) (r1.go A1 e2) r2 (fun z d H3 e3 p3 r3 ⟨k, ed, hk⟩ => ?_) (kx.go (e1.trans e2) (by omega)) pins s2 v w I2 rv rw') fun z s3 ⟨z', H3, I3, rz, k, ez, hz⟩ => ?_
    · subst ed
      exact ⟨k, r3, kn k H3 ((e1.trans e2).trans e3) (p3.up (by omega)) hk⟩
    · subst ez
      exact ⟨k, rz, H3, I3, hz⟩
  · subst ez
    first
      | exact wpAny_holding (wpAny_pure hz)
      | exact wpAny_pure hz
      | exact hz
      | exact wpAny_truthy_bool hz
theorem dt_not (h : DT X W c e Γ (fun k => pb (!k)) xp) : DT X W c (.UnaryOp .Not e pos) Γ pb xp := fun u n H σ Q A hn kn kx =>
  twt_of (pt_not (twt_pt X e)) (h u n H σ (fun k H1 => Q (!k) H1) A hn (fun k H1 e1 p1 q1 => kn _ H1 e1 p1 q1) kx)
/-- and, or as tests -/
def DW (X : Cx) (W : WX) (c : Nat) (e : Expr) (Γ : Gm) (post : Bool → Prop) (xp : XP) : Prop :=
  ∀ (u : U) (n : Nat) (H : Hp) (σ : L2.St) (Q : Bool → Hp → Prop), At u n H σ Γ → n + c ≤ lim → (∀ b H', Exp u.p H H' → Pen u (n + c) H' → post b → Q b H') → KX u (n + c) H σ xp W →
    ∀ (whole : Sem Value) (pins : List (Addr × Obj)) (s : Shared), Inv X pins σ H s → wpAny (model X.prog X.w) X.A (PySem.isTrue e X.env whole) (TP X pins σ Q) X.xe s
def TWW (X : Cx) (e : Expr) (σ : L2.St) (H : Hp) (Q : Bool → Hp → Prop) : Prop := ∀ (whole : Sem Value) (pins : List (Addr × Obj)) (s : Shared), Inv X pins σ H s → wpAny (model X.prog X.w) X.A (PySem.isTrue e X.env whole) (TP X pins σ Q) X.xe s
theorem tww_pw (X : Cx) (e : Expr) : PW X e (TWW X e) := ⟨fun whole pins s σ H Q I h => h whole pins s I⟩
theorem tww_of {e : Expr} {t : TT} {σ : L2.St} {H : Hp} {Q : Bool → Hp → Prop} (h : PW X e t) (q : t σ H Q) : TWW X e σ H Q := fun whole pins s I => h.run whole pins s σ H Q I q
theorem dt_w (h : DW X W c e Γ pb xp) : DT X W c e Γ pb xp := fun u n H σ Q A hn kn kx => TWT.mk fun pins s I => h u n H σ Q A hn kn kx _ pins s I
theorem dw_one {op : BoolOp} (h : DT X W c a Γ pb xp) : DW X W c (.BoolOp op [a] pos) Γ pb xp := fun u n H σ Q A hn kn kx => by
  cases op with
  | And => exact tww_of (pw_and1 (twt_pt X a)) (h u n H σ Q A hn kn kx)
  | Or => exact tww_of (pw_or1 (twt_pt X a)) (h u n H σ Q A hn kn kx)
theorem dw_and {rest : List Expr} (h : DT X W c1 a Γ (fun k => (k = true → DW X W c2 (.BoolOp .And (b :: rest) pos) Γ pb xp) ∧ (k = false → pb false)) xp) : DW X W (c1 + c2) (.BoolOp .And (a :: b :: rest) pos) Γ pb xp := fun u n H σ Q A hn kn kx => by
  refine tww_of (pw_and (twt_pt X a) (tww_pw X _)) ?_
  refine h u n H σ _ A (by omega) (fun k H1 e1 p1 q1 => ?_) (kx.go Exp.refl (by omega))
  cases k with
  | true => exact q1.1 rfl u (n + c1) H1 σ Q (A.step e1 p1) (by omega) (fun b H2 e2 p2 q2 => kn b H2 (e1.trans e2) (p2.up (by omega)) q2) (kx.go e1 (by omega))
  | false => exact kn false H1 e1 (p1.up (by omega)) (q1.2 rfl)
theorem dw_or {rest : List Expr} (h : DT X W c1 a Γ (fun k => (k = false → DW X W c2 (.BoolOp .Or (b :: rest) pos) Γ pb xp) ∧ (k = true → pb true)) xp) : DW X W (c1 + c2) (.BoolOp .Or (a :: b :: rest) pos) Γ pb xp := fun u n H σ Q A hn kn kx => by
  refine tww_of (pw_or (twt_pt X a) (tww_pw X _)) ?_
  refine h u n H σ _ A (by omega) (fun k H1 e1 p1 q1 => ?_) (kx.go Exp.refl (by omega))
  cases k with
  | false => exact q1.1 rfl u (n + c1) H1 σ Q (A.step e1 p1) (by omega) (fun b H2 e2 p2 q2 => kn b H2 (e1.trans e2) (p2.up (by omega)) q2) (kx.go e1 (by omega))
  | true => exact kn true H1 e1 (p1.up (by omega)) (q1.2 rfl)
/-! ### and, or, not, if as values (of truths) -/
theorem de_one {op : BoolOp} (h : DE X W c a Γ post xp) : DE X W c (.BoolOp op [a] pos) Γ post xp := fun u n H σ Q A hn kn kx => tw_of (pe_one (tw_pe X a)) (h u n H σ Q A hn kn kx)
theorem de_and {rest : List Expr} (h : DE X W c1 a Γ (fun d => ∃ k, d = .bl k ∧ (k = true → DE X W c2 (.BoolOp .And (b :: rest) pos) Γ post xp) ∧ (k = false → post (.bl false))) xp) : DE X W (c1 + c2) (.BoolOp .And (a :: b :: rest) pos) Γ post xp := fun u n H σ Q A hn kn kx => by
  refine tw_of (pe_and (tw_pe X a) (tw_pe X _)) ?_
  refine h u n H σ _ A (by omega) (fun v d H1 e1 p1 r1 ⟨k, ed, h1, h2⟩ => ?_) (kx.go Exp.refl (by omega))
  subst ed
  refine ⟨k, r1, ?_⟩
  cases k with
  | true => exact h1 rfl u (n + c1) H1 σ Q (A.step e1 p1) (by omega) (kn.go e1 (by omega)) (kx.go e1 (by omega))
  | false => exact kn _ (.bl false) H1 e1 (p1.up (by omega)) rfl (h2 rfl)
theorem de_or {rest : List Expr} (h : DE X W c1 a Γ (fun d => ∃ k, d = .bl k ∧ (k = false → DE X W c2 (.BoolOp .Or (b :: rest) pos) Γ post xp) ∧ (k = true → post (.bl true))) xp) : DE X W (c1 + c2) (.BoolOp .Or (a :: b :: rest) pos) Γ post xp := fun u n H σ Q A hn kn kx => by
  refine tw_of (pe_or (tw_pe X a) (tw_pe X _)) ?_
  refine h u n H σ _ A (by omega) (fun v d H1 e1 p1 r1 ⟨k, ed, h1, h2⟩ => ?_) (kx.go Exp.refl (by omega))
  subst ed
  refine ⟨k, r1, ?_⟩
  cases k with
  | false => exact h1 rfl u (n + c1) H1 σ Q (A.step e1 p1) (by omega) (kn.go e1 (by omega)) (kx.go e1 (by omega))
  | true => exact kn _ (.bl true) H1 e1 (p1.up (by omega)) rfl (h2 rfl)
theorem de_not (h : DE X W c a Γ (fun d => ∃ k, d = .bl k ∧ post (.bl (!k))) xp) : DE X W c (.UnaryOp .Not a pos) Γ post xp := fun u n H σ Q A hn kn kx => by
  refine tw_of (pe_not (tw_pe X a)) ?_
  refine h u n H σ _ A (by omega) (fun v d H1 e1 p1 r1 ⟨k, ed, h1⟩ => ?_) (kx.go Exp.refl (by omega))
  subst ed
  exact ⟨k, r1, kn _ (.bl (!k)) H1 e1 p1 rfl h1⟩
theorem de_ifx {t : Expr} (h : DT X W c1 t Γ (fun k => (k = true → DE X W c2 a Γ post xp) ∧ (k = false → DE X W c3 b Γ post xp)) xp) : DE X W (c1 + max c2 c3) (.IfExp t a b pos) Γ post xp := fun u n H σ Q A hn kn kx => by
  refine tw_of (pe_ifExp (twt_pt X t) (tw_pe X a) (tw_pe X b)) ?_
  refine h u n H σ _ A (by omega) (fun k H1 e1 p1 ⟨h1, h2⟩ => ?_) (kx.go Exp.refl (by omega))
  cases k with
  | true => exact h1 rfl u (n + c1) H1 σ Q (A.step e1 p1) (by omega) (kn.go e1 (by omega)) (kx.go e1 (by omega))
  | false => exact h2 rfl u (n + c1) H1 σ Q (A.step e1 p1) (by omega) (kn.go e1 (by omega)) (kx.go e1 (by omega))
/-! ### arguments, displays -/
theorem da_nil {pa : List D → Prop} (q : pa []) : DA X W 0 [] Γ pa xp := fun u n H σ Q A hn kn kx => twa_of pa_nil (kn [] [] H Exp.refl A.pen RepL.nil q)
theorem da_cons {es : List Expr} {pa : List D → Prop} (h : DE X W c1 e Γ (fun d => DA X W c2 es Γ (fun ds => pa (d :: ds)) xp) xp) (hs : starEach (e :: es) X.env = (false, eval e X.env) :: starEach es X.env := by rfl) : DA X W (c1 + c2) (e :: es) Γ pa xp := fun u n H σ Q A hn kn kx => by
  refine twa_of (pa_cons (tw_pe X e) (twa_pa X es) hs) ?_
  refine h u n H σ _ A (by omega) (fun v d H1 e1 p1 r1 h1 => ?_) (kx.go Exp.refl (by omega))
  refine h1 u (n + c1) H1 σ _ (A.step e1 p1) (by omega) (fun vs ds H2 e2 p2 r2 q => ?_) (kx.go e1 (by omega))
  exact kn (v :: vs) (d :: ds) H2 (e1.trans e2) (p2.up (by omega)) (RepL.cons (r1.go (A.toAl.step e1 p1) e2) r2) q
theorem de_tup {es : List Expr} {x1} (h : DA X W c es Γ (fun ds => ds.length ≤ sizeLine ∧ post (.tup ds)) xp) : DE X W c (.Tuple es x1 pos) Γ post xp := fun u n H σ Q A hn kn kx => by
  refine tw_of (pe_tup (twa_pa X es)) ?_
  refine h u n H σ _ A hn (fun vs ds H1 e1 p1 r1 ⟨hz, q⟩ => ⟨by rw [r1.length]; exact hz, fun p hp => ?_⟩) kx
  exact (kn.go e1 (Nat.le_refl _)).tup (A.toAl.step e1 p1) r1 q hp
theorem de_lst {es : List Expr} (h : DA X W c es Γ (fun ds => ds.length ≤ sizeLine ∧ post (.lst ds)) xp) : DE X W c (.List es pos) Γ post xp := fun u n H σ Q A hn kn kx => by
  refine tw_of (pe_lst (twa_pa X es)) ?_
  refine h u n H σ _ A hn (fun vs ds H1 e1 p1 r1 ⟨hz, q⟩ => ⟨by rw [r1.length]; exact hz, fun p hp => ?_⟩) kx
  exact (kn.go e1 (Nat.le_refl _)).lst (A.toAl.step e1 p1) r1 q hp
theorem de_dnew (q : post (.dic [])) : DE X W 0 (.Dict [] [] pos) Γ post xp := fun u n H σ Q A hn kn kx => tw_of pe_dnewK fun d hd => kn.dic A.toAl (ds := []) (vs := []) rfl q hd
theorem sz9 {n : Nat} (h : n ≤ 100000) : n ≤ sizeLine := Nat.le_trans h (by decide)
/-! ### subscripts, slices -/
theorem de_ix (h : DE X W c1 a Γ (fun d1 => DE X W c2 b Γ (fun d2 => ∃ i : Int, d2 = .int i ∧ ((∃ ds d, (d1 = .lst ds ∨ d1 = .tup ds) ∧ atI ds i = some d ∧ post d) ∨ ∃ z ch, d1 = .str z ∧ z.length ≤ sizeLine ∧ atI z.cps.toList i = some ch ∧ post (.str ⟨#[ch]⟩))) xp) xp) (hs : PlainIx b := by exact fun _ _ => rfl) :
    DE X W (c1 + c2) (.Subscript a b pos) Γ post xp := fun u n H σ Q A hn kn kx => by
  refine tw_of (pe_ix ix_seq (tw_pe X a) (tw_pe X b) hs) ?_
  refine h u n H σ _ A (by omega) (fun v d1 H1 e1 p1 r1 h1 => ?_) (kx.go Exp.refl (by omega))
  have A1 := A.toAl.step e1 p1
  refine h1 u (n + c1) H1 σ _ (A.step e1 p1) (by omega) (fun w d2 H2 e2 p2 r2 ⟨i, ed, h2⟩ => ?_) (kx.go e1 (by omega))
  subst ed
  have A2 := A1.step e2 p2
  have K2 := kn.go (e1.trans e2) (Nat.le_of_eq (Nat.add_assoc n c1 c2))
  have hat : ∀ {ds : List D} {d : D} {vs : List V}, RepL u H2 ds vs → atI ds i = some d → ∃ v', atI vs i = some v' ∧ Rep u H2 d v' := fun {ds d vs} rl hd => by
    unfold atI at hd ⊢
    rw [rl.length]
    cases hi : ixN ds.length i with
    | none => rw [hi] at hd; cases hd
    | some j =>
      rw [hi] at hd
      exact rl.get hd
  rcases h2 with ⟨ds, d, hk, hd, q⟩ | ⟨z, ch, hz, hl, hc, q⟩
  · rcases hk with rfl | rfl
    · obtain ⟨p, vs, ev, f, g, rl⟩ := (show ∃ a vs, v = .ref a ∧ ¬ u.F a ∧ H2 a = some (.lst vs) ∧ RepL u H2 ds vs from r1.go A1 e2)
      obtain ⟨v', hv, rv⟩ := hat rl hd
      exact .inl ⟨p, vs, i, v', ev, r2, SqL.of g, hv, K2.here A2 rv q⟩
    · obtain ⟨p, vs, ev, f, g, rl⟩ := (show ∃ a vs, v = .ref a ∧ ¬ u.F a ∧ H2 a = some (.tup vs) ∧ RepL u H2 ds vs from r1.go A1 e2)
      obtain ⟨v', hv, rv⟩ := hat rl hd
      exact .inr (.inl ⟨p, vs, i, v', ev, r2, SqT.of g, hv, K2.here A2 rv q⟩)
  · subst hz
    exact .inr (.inr ⟨z, i, ch, r1, r2, hl, hc, K2.here (d := .str ⟨#[ch]⟩) A2 rfl q⟩)
end
end Dx
-- DxE
namespace Dx
open PySem PySem.Spec PyProof.Rows L2
section
variable {X : Cx} {W : WX} {c c1 c2 c3 : Nat} {Γ : Gm} {post : D → Prop} {pb : Bool → Prop} {xp : XP} {a b e : Expr} {pos : Pos}
/-! ### what a represented value is -/
theorem Rep.tupE {u : U} {H : Hp} {ds : List D} {v : V} (h : Rep u H (.tup ds) v) : ∃ a vs, v = .ref a ∧ ¬ u.F a ∧ H a = some (.tup vs) ∧ RepL u H ds vs := h
theorem Rep.lstE {u : U} {H : Hp} {ds : List D} {v : V} (h : Rep u H (.lst ds) v) : ∃ a vs, v = .ref a ∧ ¬ u.F a ∧ H a = some (.lst vs) ∧ RepL u H ds vs := h
theorem Rep.dicE {u : U} {H : Hp} {ds : List (Key × D)} {v : V} (h : Rep u H (.dic ds) v) : ∃ a vs, v = .ref a ∧ ¬ u.F a ∧ H a = some (.dK vs) ∧ RepK u H ds vs := h
theorem Rep.objE {u : U} {H : Hp} {C : Addr} {ds : List (Str × D)} {v : V} (h : Rep u H (.obj C ds) v) : ∃ a dx vs, v = .ref a ∧ ¬ u.F a ∧ H a = some (.ins C dx vs) ∧ RepF u H ds vs := h
/-! ### slices -/
def DP (X : Cx) (W : WX) (c : Nat) (e : Option Expr) (Γ : Gm) (post : Option Int → Prop) (xp : XP) : Prop :=
  ∀ (u : U) (n : Nat) (H : Hp) (σ : L2.St) (Q : Option Int → Hp → Prop), At u n H σ Γ → n + c ≤ lim → (∀ o H', Exp u.p H H' → Pen u (n + c) H' → post o → Q o H') → KX u (n + c) H σ xp W →
    ∀ (pins : List (Addr × Obj)) (s : Shared), Inv X pins σ H s → wpAny (model X.prog X.w) X.A (evalPart e X.env) (fun u s' => ∃ o H', Inv X pins σ H' s' ∧ IsPart u o ∧ Q o H') X.xe s
theorem dp_none {po : Option Int → Prop} (q : po none) : DP X W 0 none Γ po xp := fun u n H σ Q A hn kn kx pins s I => po_none.run pins s σ H Q I (kn none H Exp.refl A.pen q)
theorem dp_some {po : Option Int → Prop} (h : DE X W c e Γ (fun d => ∃ i, d = .int i ∧ po (some i)) xp) : DP X W c (some e) Γ po xp := fun u n H σ Q A hn kn kx pins s I =>
  (po_some (tw_pe X e)).run pins s σ H Q I (h u n H σ _ A hn (fun v d H' e p r ⟨i, ed, q⟩ => by subst ed; exact ⟨i, r, kn (some i) H' e p q⟩) kx)
def cutD (xs : List D) (lo hi : Option Int) : List D := (xs.drop (HT.sIx xs.length 0 lo)).take (HT.sIx xs.length xs.length hi - HT.sIx xs.length 0 lo)
theorem RepL.cut {u : U} {H : Hp} {ds : List D} {vs : List V} (h : RepL u H ds vs) (lo hi : Option Int) : RepL u H (cutD ds lo hi) (cutV vs lo hi) := by
  unfold cutD cutV
  rw [h.length]
  exact (h.drop _).take _
/-- a list's slice, a text's, a tuple's -/
def SlD (post : D → Prop) (d : D) (lo hi : Option Int) : Prop := (∃ ds, d = .lst ds ∧ post (.lst (cutD ds lo hi))) ∨ (∃ z, d = .str z ∧ z.length ≤ sizeLine ∧ post (.str (cutS z lo hi))) ∨ ∃ ds, d = .tup ds ∧ post (.tup (cutD ds lo hi))
theorem cutD_whole {ds : List D} {lo hi : Option Int} (h : HT.sIx ds.length 0 lo = 0 ∧ HT.sIx ds.length ds.length hi = ds.length) : cutD ds lo hi = ds := by
  unfold cutD
  rw [h.1, h.2]; simp
theorem de_sl {lo hi : Option Expr} {p2 : Pos} (h : DE X W c1 e Γ (fun d => DP X W c2 lo Γ (fun l => DP X W c3 hi Γ (fun u => SlD post d l u) xp) xp) xp) : DE X W (c1 + c2 + c3) (.Subscript e (.Slice lo hi none p2) pos) Γ post xp := fun u n H σ Q A hn kn kx => TW.mk fun pins s I => by
  have core : PE X (.Subscript e (.Slice lo hi none p2) pos) (tSl (fun x lo hi H Q => rSlL X.K x lo hi H Q ∨ rSlS x lo hi H Q ∨ rSlA X.K x lo hi H Q) (TW X e) (fun σ H Q => ∀ pins s, Inv X pins σ H s → wpAny (model X.prog X.w) X.A (evalPart lo X.env) (fun u s' => ∃ o H', Inv X pins σ H' s' ∧ IsPart u o ∧ Q o H') X.xe s)
      (fun σ H Q => ∀ pins s, Inv X pins σ H s → wpAny (model X.prog X.w) X.A (evalPart hi X.env) (fun u s' => ∃ o H', Inv X pins σ H' s' ∧ IsPart u o ∧ Q o H') X.xe s)) :=
    pe_slice (SlR.or sl_list (SlR.or sl_str sl_tupA)) (tw_pe X e) ⟨fun pins s σ H Q I h => h pins s I⟩ ⟨fun pins s σ H Q I h => h pins s I⟩
  refine core.run pins s σ H Q I ?_
  refine h u n H σ _ A (by omega) (fun v d H1 e1 p1 r1 h1 => ?_) (kx.go Exp.refl (by omega))
  have A1 := A.toAl.step e1 p1
  refine h1 u (n + c1) H1 σ _ (A.step e1 p1) (by omega) (fun l H2 e2 p2 h2 => ?_) (kx.go e1 (by omega))
  have A2 := A1.step e2 p2
  refine h2 u (n + c1 + c2) H2 σ _ ((A.step e1 p1).step e2 p2) (by omega) (fun o H3 e3 p3 h3 => ?_) (kx.go (e1.trans e2) (by omega))
  have A3 := A2.step e3 p3
  have r3 := (r1.go A1 e2).go A2 e3
  have K3 := kn.go ((e1.trans e2).trans e3) (m := n + c1 + c2 + c3) (by omega)
  rcases h3 with ⟨ds, ed, q⟩ | ⟨z, ed, hz, q⟩ | ⟨ds, ed, q⟩
  · subst ed
    obtain ⟨a', vs, ev, f, g, rl⟩ := r3.lstE
    exact .inl ⟨a', vs, ev, SqL.of g, fun p hp => K3.lst A3 (rl.cut l o) q hp⟩
  · subst ed
    exact .inr (.inl ⟨z, r3, hz, K3.here (d := .str (cutS z l o)) A3 rfl q⟩)
  · subst ed
    obtain ⟨a', vs, ev, f, g, rl⟩ := r3.tupE
    refine .inr (.inr ⟨a', vs, ev, SqT.of g, fun hw => ?_, fun _ p hp => K3.tup A3 (rl.cut l o) q hp⟩)
    rw [rl.length] at hw
    rw [cutD_whole hw] at q
    exact K3.here (d := .tup ds) A3 (by rw [ev] at r3; exact r3) q
/-! ### built-in functions and types, called by name -/
theorem de_callB {id : String} {x : Str} {p : Pos} {es : List Expr} (hm : X.mg x = none) (hv : bootBuiltins x = some (.builtin id)) (h : DA X W c1 (e :: es) Γ (fun ds => OC X W c2 (.builtin id) ds post xp) xp) (hg : Gl X x := by rfl) (hn' : x ≠ "__name__" := by decide) (hdb : (x == ("__debug__" : Str)) = false := by decide)
    (he : starEach (e :: es) X.env = (false, eval e X.env) :: starEach es X.env := by rfl) (hpl : (backTo pos (starEach es X.env)).any (·.1) = false := by rfl) : DE X W (c1 + c2) (.Call (.Name x p) (e :: es) [] pos) Γ post xp := fun u n H σ Q A hn kn kx => TW.mk fun pins s I => by
  refine wpAny_Call_Name_kw (ld_blt I hg hm hv ?_ hn' hdb)
  refine PyProof.Rows.callWith_builtin1 (thn (h u n H σ (fun vs H1 => ∀ s1 us, Inv X pins σ H1 s1 → Vals vs us → wpAny (model X.prog X.w) X.A (call (.builtin id) us) (EP X pins σ Q) X.xe s1) A (by omega) (fun vs ds H1 e1 p1 r1 q1 s1 us I1 ru => ?_) (kx.go Exp.refl (by omega)) pos pins s I) fun us s1 ⟨vs, H1, I1, r1, q1⟩ => q1 s1 us I1 r1) he hpl
  exact q1 u (n + c1) H1 σ vs Q (A.toAl.step e1 p1) (by omega) r1 (kn.go e1 (by omega)) (kx.go e1 (by omega)) pins s1 us I1 ru
theorem de_callTy {T : String} {x : Str} {p : Pos} {es : List Expr} (hm : X.mg x = none) (hv : bootBuiltins x = some (.type T)) (h : DA X W c1 (e :: es) Γ (fun ds => OC X W c2 (.type T) ds post xp) xp) (hg : Gl X x := by rfl) (hn' : x ≠ "__name__" := by decide) (hdb : (x == ("__debug__" : Str)) = false := by decide)
    (he : starEach (e :: es) X.env = (false, eval e X.env) :: starEach es X.env := by rfl) (hpl : (backTo pos (starEach es X.env)).any (·.1) = false := by rfl) : DE X W (c1 + c2) (.Call (.Name x p) (e :: es) [] pos) Γ post xp := fun u n H σ Q A hn kn kx => TW.mk fun pins s I => by
  refine wpAny_Call_Name_kw (ld_blt I hg hm hv ?_ hn' hdb)
  refine PyProof.Rows.callWith_type1 (thn (h u n H σ (fun vs H1 => ∀ s1 us, Inv X pins σ H1 s1 → Vals vs us → wpAny (model X.prog X.w) X.A (call (.type T) us) (EP X pins σ Q) X.xe s1) A (by omega) (fun vs ds H1 e1 p1 r1 q1 s1 us I1 ru => ?_) (kx.go Exp.refl (by omega)) pos pins s I) fun us s1 ⟨vs, H1, I1, r1, q1⟩ => q1 s1 us I1 r1) he hpl
  exact q1 u (n + c1) H1 σ vs Q (A.toAl.step e1 p1) (by omega) r1 (kn.go e1 (by omega)) (kx.go e1 (by omega)) pins s1 us I1 ru
/-- a rule of the layer, nothing raised, no draw -/
theorem oc_of {f : Value} {ds : List D} {r : List V → Hp → VK → Prop} (h : CallR X f r) (hr : ∀ (u : U) (n : Nat) (H : Hp) (xs : List V) (Q : VK), Al u n H → RepL u H ds xs → KN u n H post Q → r xs H Q) : OC X W 0 f ds post xp :=
  fun u n H σ xs Q A hn rx kn kx => tc_of h (hr u n H xs Q A rx kn)
theorem RepL.one {u : U} {H : Hp} {d : D} {xs : List V} (h : RepL u H [d] xs) : ∃ x, xs = [x] ∧ Rep u H d x := by
  obtain ⟨v, r, e, a, b⟩ := h.uncons
  rw [show r = [] from b] at e
  exact ⟨v, e, a⟩
theorem RepL.two {u : U} {H : Hp} {d d' : D} {xs : List V} (h : RepL u H [d, d'] xs) : ∃ x y, xs = [x, y] ∧ Rep u H d x ∧ Rep u H d' y := by
  obtain ⟨v, r, e, a, b⟩ := h.uncons
  obtain ⟨w, eb, rb⟩ := RepL.one b
  exact ⟨v, w, by rw [e, eb], a, rb⟩
theorem oc_len_str {z : Str} (hz : z.length ≤ sizeLine) (q : post (.int z.length)) : OC X W 0 (.builtin "len") [.str z] post xp := oc_of call_len_str fun u n H xs Q A r k => by
  obtain ⟨x, e, rx⟩ := r.one
  exact ⟨z, by rw [e, show x = .str z from rx], hz, k.here (d := .int z.length) A rfl q⟩
theorem oc_len_lst {ds : List D} (q : post (.int ds.length)) : OC X W 0 (.builtin "len") [.lst ds] post xp := oc_of call_len_seq fun u n H xs Q A r k => by
  obtain ⟨x, e, rx⟩ := r.one
  obtain ⟨a, vs, e1, f, g, rl⟩ := rx.lstE
  exact ⟨a, vs, by rw [e, e1], .inl (SqL.of g), by rw [rl.length]; exact k.here (d := .int ds.length) A rfl q⟩
theorem oc_len_tup {ds : List D} (q : post (.int ds.length)) : OC X W 0 (.builtin "len") [.tup ds] post xp := oc_of call_len_seq fun u n H xs Q A r k => by
  obtain ⟨x, e, rx⟩ := r.one
  obtain ⟨a, vs, e1, f, g, rl⟩ := rx.tupE
  exact ⟨a, vs, by rw [e, e1], .inr (SqT.of g), by rw [rl.length]; exact k.here (d := .int ds.length) A rfl q⟩
theorem oc_int {i : Int} (q : post (.int i)) : OC X W 0 (.type "int") [.int i] post xp := oc_of call_int1 fun u n H xs Q A r k => by
  obtain ⟨x, e, rx⟩ := r.one
  exact .inl ⟨i, by rw [e, show x = .int i from rx], k.here (d := .int i) A rfl q⟩
theorem oc_int_bl {i : Bool} (q : post (.int (if i then 1 else 0))) : OC X W 0 (.type "int") [.bl i] post xp := oc_of call_int1 fun u n H xs Q A r k => by
  obtain ⟨x, e, rx⟩ := r.one
  exact .inr ⟨i, by rw [e, show x = .bl i from rx], k.here (d := .int (if i then 1 else 0)) A rfl q⟩
theorem oc_int_str {z : Str} {i : Int} (hz : PySem.intText? z = some i) (hl : z.length ≤ 640) (q : post (.int i)) : OC X W 0 (.type "int") [.str z] post xp := oc_of call_int_str fun u n H xs Q A r k => by
  obtain ⟨x, e, rx⟩ := r.one
  exact ⟨z, i, by rw [e, show x = .str z from rx], hz, hl, k.here (d := .int i) A rfl q⟩
theorem oc_abs {i : Int} (q : post (.int (if i < 0 then -i else i))) : OC X W 0 (.builtin "abs") [.int i] post xp := oc_of call_abs fun u n H xs Q A r k => by
  obtain ⟨x, e, rx⟩ := r.one
  exact ⟨i, by rw [e, show x = .int i from rx], k.here (d := .int (if i < 0 then -i else i)) A rfl q⟩
theorem oc_bool_int {i : Int} (q : post (.bl (i != 0))) : OC X W 0 (.type "bool") [.int i] post xp := oc_of call_bool1 fun u n H xs Q A r k => by
  obtain ⟨x, e, rx⟩ := r.one
  exact .inl ⟨i, by rw [e, show x = .int i from rx], k.here (d := .bl (i != 0)) A rfl q⟩
theorem oc_str_int {i : Int} (hz : i.natAbs.log2 < 1920) (q : post (.str (toString i))) : OC X W 0 (.type "str") [.int i] post xp := oc_of call_str_int fun u n H xs Q A r k => by
  obtain ⟨x, e, rx⟩ := r.one
  exact ⟨i, by rw [e, show x = .int i from rx], hz, k.here (d := .str (toString i)) A rfl q⟩
theorem oc_list {ds : List D} {d : D} (hd : d = .lst ds ∨ d = .tup ds) (q : post (.lst ds)) : OC X W 0 (.type "list") [d] post xp := oc_of call_list_of fun u n H xs Q A r k => by
  obtain ⟨x, e, rx⟩ := r.one
  rcases hd with rfl | rfl
  · obtain ⟨a, vs, e1, f, g, rl⟩ := rx.lstE
    exact ⟨a, vs, by rw [e, e1], .inl (SqL.of g), fun l hl => k.lst A rl q hl⟩
  · obtain ⟨a, vs, e1, f, g, rl⟩ := rx.tupE
    exact ⟨a, vs, by rw [e, e1], .inr (SqT.of g), fun l hl => k.lst A rl q hl⟩
theorem oc_tuple_l {ds : List D} (q : post (.tup ds)) : OC X W 0 (.type "tuple") [.lst ds] post xp := oc_of call_tuple_of fun u n H xs Q A r k => by
  obtain ⟨x, e, rx⟩ := r.one
  obtain ⟨a, vs, e1, f, g, rl⟩ := rx.lstE
  exact ⟨a, vs, by rw [e, e1], .inl ⟨SqL.of g, fun l hl => k.tup A rl q hl⟩⟩
theorem oc_sum {ns : List Int} (hc : X.calm = true) (q : post (.int ns.sum)) : OC X W 0 (.builtin "sum") [.lst (ns.map D.int)] post xp := oc_of (cr_sum hc) fun u n H xs Q A r k => by
  obtain ⟨x, e, rx⟩ := r.one
  obtain ⟨a, vs, e1, f, g, rl⟩ := rx.lstE
  rw [rl.ints] at g
  exact ⟨a, ns, by rw [e, e1], SqL.of g, k.here (d := .int ns.sum) A rfl q⟩
theorem oc_all {bs : List Bool} (hc : X.calm = true) (q : post (.bl (bs.all id))) : OC X W 0 (.builtin "all") [.lst (bs.map D.bl)] post xp := oc_of (cr_all hc) fun u n H xs Q A r k => by
  obtain ⟨x, e, rx⟩ := r.one
  obtain ⟨a, vs, e1, f, g, rl⟩ := rx.lstE
  rw [rl.bools] at g
  exact ⟨a, bs, by rw [e, e1], SqL.of g, k.here (d := .bl (bs.all id)) A rfl q⟩
theorem oc_any {bs : List Bool} (hc : X.calm = true) (q : post (.bl (bs.any id))) : OC X W 0 (.builtin "any") [.lst (bs.map D.bl)] post xp := oc_of (cr_any hc) fun u n H xs Q A r k => by
  obtain ⟨x, e, rx⟩ := r.one
  obtain ⟨a, vs, e1, f, g, rl⟩ := rx.lstE
  rw [rl.bools] at g
  exact ⟨a, bs, by rw [e, e1], SqL.of g, k.here (d := .bl (bs.any id)) A rfl q⟩
theorem oc_sortedS {ws : List Str} (hl : ws.length < 64) (q : ∀ ys : List Str, ys.Perm ws → sortedS ys = true → post (.lst (ys.map D.str))) : OC X W 0 (.builtin "sorted") [.lst (ws.map D.str)] post xp := oc_of cr_sortedS fun u n H xs Q A r k => by
  obtain ⟨x, e, rx⟩ := r.one
  obtain ⟨a, vs, e1, f, g, rl⟩ := rx.lstE
  rw [rl.strs] at g
  exact ⟨a, ws, by rw [e, e1], SqL.of g, hl, fun ys p hp hs hf => k.lst A RepL.ofStrs (q ys hp hs) hf⟩
theorem oc_maxL {ns : List Int} (hc : X.calm = true) (hl : 0 < ns.length) (q : ∀ m, m ∈ ns → (∀ y, y ∈ ns → y ≤ m) → post (.int m)) : OC X W 0 (.builtin "max") [.lst (ns.map D.int)] post xp := oc_of (cr_max hc) fun u n H xs Q A r k => by
  obtain ⟨x, e, rx⟩ := r.one
  obtain ⟨a, vs, e1, f, g, rl⟩ := rx.lstE
  rw [rl.ints] at g
  exact ⟨a, ns, by rw [e, e1], SqL.of g, hl, fun m h1 h2 => k.here (d := .int m) A rfl (q m h1 h2)⟩
theorem oc_min2 {i j : Int} (hc : X.calm = true) (q : post (.int (if j < i then j else i))) : OC X W 0 (.builtin "min") [.int i, .int j] post xp := oc_of (call_min2 hc) fun u n H xs Q A r k => by
  obtain ⟨x, y, e, rx, ry⟩ := r.two
  exact ⟨i, j, by rw [e, show x = .int i from rx, show y = .int j from ry], k.here (d := .int _) A rfl q⟩
theorem oc_max2 {i j : Int} (hc : X.calm = true) (q : post (.int (if j > i then j else i))) : OC X W 0 (.builtin "max") [.int i, .int j] post xp := oc_of (call_max2 hc) fun u n H xs Q A r k => by
  obtain ⟨x, y, e, rx, ry⟩ := r.two
  exact ⟨i, j, by rw [e, show x = .int i from rx, show y = .int j from ry], k.here (d := .int _) A rfl q⟩
/-! ### isinstance -/
def tyD : D → Option Value
  | .non => some (.type "NoneType") | .bl _ => some (.type "bool") | .int _ => some (.type "int") | .str _ => some (.type "str") | .tup _ => some (.type "tuple") | .lst _ => some (.type "list") | .dic _ => some (.type "dict")
  | .obj C _ => some (.ref C) | _ => none
/-- what isinstance asks of an own class whose instances may come -/
structure InsT (K : PySem.W.Frag) (C : Addr) : Prop where
  cl : Cls K C
  ha : PySem.W.findIn K (.ref C) "__class__" = some (some (.builtin "object.__class__"))
  hn : PySem.W.specialIn K (.builtin "object.__class__") "__get__" = some (some (.builtin "getset_descriptor.__get__"))
  htk : PySem.W.takesIn K (.builtin "object.__class__") = some true
  hm : PySem.W.mroIn K C (.type "object") = some true
theorem ty_rep {K : PySem.W.Frag} {u : U} {H : Hp} {d : D} {v : V} {t : Value} (r : Rep u H d v) (h : tyD d = some t) (ho : ∀ C fs, d = .obj C fs → InsT K C) : TyX K H v t := by
  cases d with
  | non => rw [show v = .non from r]; cases h; exact .base .non
  | bl b => rw [show v = .bl b from r]; cases h; exact .base (.bl b)
  | int b => rw [show v = .int b from r]; cases h; exact .base (.int b)
  | str b => rw [show v = .str b from r]; cases h; exact .base (.str b)
  | pen => cases h
  | ref _ => cases h
  | ty _ => cases h
  | tup ds => obtain ⟨a, vs, e, f, g, _⟩ := r.tupE; rw [e]; cases h; exact .base (.tup g)
  | lst ds => obtain ⟨a, vs, e, f, g, _⟩ := r.lstE; rw [e]; cases h; exact .base (.lst g)
  | dic ds => obtain ⟨a, vs, e, f, g, _⟩ := r.dicE; rw [e]; cases h; exact .base (.dK g)
  | obj C ds =>
    obtain ⟨a, dx, vs, e, f, g, _⟩ := r.objE; rw [e]; cases h
    have T := ho C ds rfl
    exact .base (.ins g T.cl T.ha T.hn T.htk T.hm)
/-- isinstance(x, c): by kitOne's answer -/
theorem oc_isi {d : D} {cd : D} {t u : Value} {k : Bool} (ht : tyD d = some t) (ho : ∀ C fs, d = .obj C fs → InsT X.K C) (hc : (∃ C, cd = .ref C ∧ u = .ref C) ∨ ∃ n, cd = .ty n ∧ u = .type n) (hk : PySem.W.kitOne X.K t u = some k) (q : post (.bl k)) : OC X W 0 (.builtin "isinstance") [d, cd] post xp := oc_of call_isi fun w n H xs Q A r kn => by
  obtain ⟨x, y, e, rx, ry⟩ := r.two
  have hcv : ClsV y u := by
    rcases hc with ⟨C, rfl, rfl⟩ | ⟨m, rfl, rfl⟩
    · rw [show y = .ref C from ry]; exact .own C
    · rw [show y = .ty m from ry]; exact .ty m
  exact ⟨x, y, t, u, k, e, hcv, ty_rep rx ht ho, hk, kn.here (d := .bl k) A rfl q⟩
/-- a built-in type's name as a value -/
theorem de_gty {x : Str} {T : String} (hm : X.mg x = none) (hv : bootBuiltins x = some (.type T)) (q : post (.ty T)) (hg : Gl X x := by rfl) (hn' : x ≠ "__name__" := by decide) (hd : (x == ("__debug__" : Str)) = false := by decide) : DE X W 0 (.Name x pos) Γ post xp := fun u n H σ Q A hn kn kx =>
  tw_of (pe_bltn hg hm hv (v := .ty T) rfl hn' hd) (kn.here (d := .ty T) A.toAl rfl q)
end
end Dx
-- DxF
namespace Dx
open PySem PySem.Spec PyProof.Rows L2
section
variable {X : Cx} {W : WX} {c c1 c2 c3 : Nat} {Γ : Gm} {post : D → Prop} {pb : Bool → Prop} {xp : XP} {a b e : Expr} {pos : Pos}
/-! ### attributes of objects -/
theorem RepF.lookup {u : U} {H : Hp} {f : Str} : ∀ {fs : List (Str × D)} {us : List (Str × V)}, RepF u H fs us → (∀ d, fs.lookup f = some d → ∃ v, us.lookup f = some v ∧ Rep u H d v) ∧ (fs.lookup f = none → us.lookup f = none)
  | [], us, h => by
    rw [show us = [] from h]
    exact ⟨fun d z => by simp at z, fun _ => by simp⟩
  | (g, d) :: fs, us, h => by
    obtain ⟨v, r, e, a, b⟩ := (show ∃ v r, us = (g, v) :: r ∧ Rep u H d v ∧ RepF u H fs r from h)
    have ih := RepF.lookup (f := f) b
    rw [e, List.lookup_cons, List.lookup_cons]
    by_cases hb : f == g
    · rw [hb]; exact ⟨fun d' z => by cases z; exact ⟨v, rfl, a⟩, fun z => by cases z⟩
    · have hb : (f == g) = false := by simpa using hb
      rw [hb]; exact ih
theorem de_fld {f : Str} (h : DE X W c e Γ (fun d => ∃ C fs d', d = .obj C fs ∧ Cls X.K C ∧ NoAttr X.K C f ∧ fs.lookup f = some d' ∧ post d') xp) (hb : attributeBase e f X.env (eval e X.env) = eval e X.env := by rfl) : DE X W c (.Attribute e f pos) Γ post xp := fun u n H σ Q A hn kn kx => by
  refine tw_of (pe_fld (tw_pe X e) hb) ?_
  refine h u n H σ _ A hn (fun v d H1 e1 p1 r1 ⟨C, fs, d', ed, hc, hna, hl, q⟩ => ?_) kx
  subst ed
  obtain ⟨a', dx, us, ev, f', g, rf⟩ := r1.objE
  obtain ⟨w, hw, rw'⟩ := rf.lookup.1 d' hl
  exact ⟨a', C, dx, us, w, ev, g, hc, hna, hw, kn w d' H1 e1 p1 rw' q⟩
/-! ### methods of built-in types -/
def OM (r : V → List V → Hp → VK → Prop) (d : D) (ds : List D) (post : D → Prop) : Prop := ∀ (u : U) (n : Nat) (H : Hp) (x : V) (xs : List V) (Q : VK), Al u n H → Rep u H d x → RepL u H ds xs → KN u n H post Q → r x xs H Q
def tyM (T : String) : D → Prop
  | .str _ => T = "str"
  | .lst _ => T = "list"
  | .dic _ => T = "dict"
  | .int _ => T = "int"
  | _ => False
theorem tyM_rep {K : PySem.W.Frag} {u : U} {H : Hp} {T : String} {d : D} {v : V} (h : tyM T d) (r : Rep u H d v) : tyV K T v H := by
  cases d with
  | str x => rw [show v = .str x from r]; exact h
  | int x => rw [show v = .int x from r]; exact h
  | lst ds => obtain ⟨a, vs, e, f, g, _⟩ := r.lstE; rw [e]; exact .inl ⟨h, vs, SqL.of g⟩
  | dic ds => obtain ⟨a, vs, e, f, g, _⟩ := r.dicE; rw [e]; exact .inr (.inr (.inl ⟨h, .inl ⟨vs, g⟩⟩))
  | non => exact h.elim
  | bl _ => exact h.elim
  | pen => exact h.elim
  | ref _ => exact h.elim
  | ty _ => exact h.elim
  | tup _ => exact h.elim
  | obj _ _ => exact h.elim
theorem de_bm {T id : String} {r : V → List V → Hp → VK → Prop} {o : Expr} {name : Str} {apos cpos : Pos} {es : List Expr} (pa : PlainAttrs T) (slot : Slot T name id) (hty : typeOf (.builtin id) = pure (.type "method_descriptor")) (hm : MtR X id r)
    (h : DE X W c1 o Γ (fun d => tyM T d ∧ DA X W c2 (e :: es) Γ (fun ds => OM r d ds post) xp) xp) (hbase : attributeBase o name X.env (eval o X.env) = eval o X.env := by rfl)
    (hfew : ((backTo cpos (starEach (e :: es) X.env)).all (fun x => !x.1) && (backToKw cpos (keywordEach [] X.env)).all (fun x => x.1.isSome) && decide ((e :: es).length + ([] : List Keyword).length + (if ([] : List Keyword).isEmpty then 0 else 1) < 30)) = true := by rfl)
    (hline : (apos.endLine == cpos.line) = true := by rfl) (hs : starEach (e :: es) X.env = (false, eval e X.env) :: starEach es X.env := by rfl) (hplain : (backTo cpos (starEach es X.env)).any (·.1) = false := by rfl) :
    DE X W (c1 + c2) (.Call (.Attribute o name apos) (e :: es) [] cpos) Γ post xp := fun u n H σ Q A hn kn kx => by
  refine tw_of (pe_bm pa slot hty hm (tw_pe X o) (twa_pa X (e :: es)) hbase hfew hline hs hplain) ?_
  refine h u n H σ _ A (by omega) (fun v d H1 e1 p1 r1 ⟨ht, h1⟩ => ⟨tyM_rep ht r1, ?_⟩) (kx.go Exp.refl (by omega))
  have A1 := A.toAl.step e1 p1
  refine h1 u (n + c1) H1 σ _ (A.step e1 p1) (by omega) (fun vs ds H2 e2 p2 r2 q2 => ?_) (kx.go e1 (by omega))
  exact q2 u (n + c1 + c2) H2 v vs Q (A1.step e2 p2) (r1.go A1 e2) r2 (kn.go (e1.trans e2) (by omega))
theorem om_count {z w : Str} (q : post (.int (Txt.count z w))) : OM (fun x xs H Q => ∃ a b, x = .str a ∧ xs = [.str b] ∧ Q (.int (Txt.count a b)) H) (.str z) [.str w] post := fun u n H x xs Q A rx rs kn => by
  obtain ⟨y, e, ry⟩ := rs.one
  exact ⟨z, w, rx, by rw [e, show y = .str w from ry], kn.here (d := .int _) A rfl q⟩
theorem om_join {X : Cx} {z : Str} {ws : List Str} (hz : (ws.map (·.length)).sum + ws.length * z.length ≤ 16777216) (q : post (.str (Txt.join z ws))) :
    OM (fun x xs H Q => ∃ a p, ∃ ys : List Str, x = .str a ∧ xs = [.ref p] ∧ (SqL X.K H p (ys.map V.str) ∨ SqT X.K H p (ys.map V.str)) ∧ (ys.map (·.length)).sum + ys.length * a.length ≤ 16777216 ∧ Q (.str (Txt.join a ys)) H) (.str z) [.lst (ws.map D.str)] post := fun u n H x xs Q A rx rs kn => by
  obtain ⟨y, e, ry⟩ := rs.one
  obtain ⟨a, vs, e1, f, g, rl⟩ := ry.lstE
  rw [rl.strs] at g
  exact ⟨z, a, ws, rx, by rw [e, e1], .inl (SqL.of g), hz, kn.here (d := .str _) A rfl q⟩
theorem om_partition {z w : Str} (hw : (w.length == 0) = false) (hz : z.length ≤ sizeLine) (q : post (.tup [.str (Txt.partition z w).1, .str (Txt.partition z w).2.1, .str (Txt.partition z w).2.2])) :
    OM (fun x xs H Q => ∃ a b, x = .str a ∧ xs = [.str b] ∧ (b.length == 0) = false ∧ a.length ≤ sizeLine ∧ ∀ p, H p = none → Q (.ref p) (upd H p (.tup [.str (Txt.partition a b).1, .str (Txt.partition a b).2.1, .str (Txt.partition a b).2.2]))) (.str z) [.str w] post := fun u n H x xs Q A rx rs kn => by
  obtain ⟨y, e, ry⟩ := rs.one
  exact ⟨z, w, rx, by rw [e, show y = .str w from ry], hw, hz, fun p hp => kn.tup A (RepL.ofStrs (ns := [_, _, _])) q hp⟩
/-! ### what is walked -/
structure WalkD (u : U) (H0 : Hp) (J : It) (ds : List D) : Prop where
  ex : ∃ (G : Hp → Prop) (Y : Nat → Hp → V → Hp → Prop), Walk J ds.length G Y ∧ (∀ H, Kp u.F H0 H → G H) ∧ ∀ (u' : U) (i : Nat) (H : Hp) (x : V) (H' : Hp), u'.p = u.p → (∀ a o, ¬ u.F a → H0 a = some o → ¬ u'.F a) → (∀ a, u'.F a → ∃ o, H a = some o) → Kp u.F H0 H → i < ds.length → Y i H x H' →
    (∀ a o, H a = some o → H' a = some o) ∧ ∃ d, ds[i]? = some d ∧ Rep u' H' d x
def TWI (X : Cx) (tg e : Expr) (σ : L2.St) (H : Hp) (R : It → Hp → Prop) : Prop := ∀ (pins : List (Addr × Obj)) (s : Shared), Inv X pins σ H s →
  wpAny (model X.prog X.w) X.A (eval e X.env) (fun v s1 => wpAny (model X.prog X.w) X.A (pyIter v) (PIE X pins σ tg R) X.xe s1) X.xe s
theorem twi_pi (X : Cx) (tg e : Expr) : PI X tg e (TWI X tg e) := ⟨fun pins s σ H R I h => h pins s I⟩
theorem twi_of {tg e : Expr} {t : TI} {σ : L2.St} {H : Hp} {R : It → Hp → Prop} (h : PI X tg e t) (q : t σ H R) : TWI X tg e σ H R := fun pins s I => h.run pins s σ H R I q
def DI (X : Cx) (W : WX) (c : Nat) (tg e : Expr) (Γ : Gm) (post : List D → Prop) (xp : XP) : Prop :=
  ∀ (u : U) (n : Nat) (H : Hp) (σ : L2.St) (R : It → Hp → Prop), At u n H σ Γ → n + c ≤ lim → (∀ J ds H', Exp u.p H H' → Pen u (n + c) H' → WalkD u H' J ds → post ds → R J H') → KX u (n + c) H σ xp W → TWI X tg e σ H R
theorem di_list {tg : Expr} {pl : List D → Prop} (h : DE X W c e Γ (fun d => ∃ ds, d = .lst ds ∧ pl ds) xp) : DI X W c tg e Γ pl xp := fun u n H σ R A hn kn kx => by
  refine twi_of (pi_list (tw_pe X e)) ?_
  refine h u n H σ _ A hn (fun v d H1 e1 p1 r1 ⟨ds, ed, q⟩ => ?_) kx
  subst ed
  obtain ⟨a, vs, ev, f, g, rl⟩ := r1.lstE
  refine ⟨a, ev, ⟨vs, SqL.of g⟩, kn _ ds H1 e1 p1 ⟨fun H => SqL X.K H a vs, YAt vs, by rw [← rl.length]; exact walk_list, fun H2 k => SqL.of (k a _ f g), fun u' i H2 x H3 hp hF hd k hi hy => ?_⟩ q⟩
  obtain ⟨eH, hx⟩ := hy
  subst eH
  obtain ⟨d, hd', rd⟩ := rl.getV hx
  exact ⟨fun _ _ z => z, d, hd', Rep.mono k hp hF d x rd⟩
theorem di_tup {tg : Expr} {pl : List D → Prop} (h : DE X W c e Γ (fun d => ∃ ds, d = .tup ds ∧ pl ds) xp) : DI X W c tg e Γ pl xp := fun u n H σ R A hn kn kx => by
  refine twi_of (pi_tup (tw_pe X e)) ?_
  refine h u n H σ _ A hn (fun v d H1 e1 p1 r1 ⟨ds, ed, q⟩ => ?_) kx
  subst ed
  obtain ⟨a, vs, ev, f, g, rl⟩ := r1.tupE
  refine ⟨a, ev, ⟨vs, SqT.of g⟩, kn _ ds H1 e1 p1 ⟨fun H => SqT X.K H a vs, YAt vs, by rw [← rl.length]; exact walk_tup, fun H2 k => SqT.of (k a _ f g), fun u' i H2 x H3 hp hF hd k hi hy => ?_⟩ q⟩
  obtain ⟨eH, hx⟩ := hy
  subst eH
  obtain ⟨d, hd', rd⟩ := rl.getV hx
  exact ⟨fun _ _ z => z, d, hd', Rep.mono k hp hF d x rd⟩
/-- the signs of a text -/
def signs (z : Str) : List D := z.cps.toList.map fun ch => D.str ⟨#[ch]⟩
theorem di_str {tg : Expr} {pl : List D → Prop} (h : DE X W c e Γ (fun d => ∃ z, d = .str z ∧ pl (signs z)) xp) : DI X W c tg e Γ pl xp := fun u n H σ R A hn kn kx => by
  refine twi_of (pi_str (tw_pe X e)) ?_
  refine h u n H σ _ A hn (fun v d H1 e1 p1 r1 ⟨z, ed, q⟩ => ?_) kx
  subst ed
  refine ⟨z, r1, kn _ (signs z) H1 e1 p1 ⟨fun _ => True, _, by have w := walk_str (z := z); rw [show (signs z).length = z.cps.size from by simp [signs]]; exact w, fun _ _ => trivial, fun u' i H2 x H3 hp hF hd k hi hy => ?_⟩ q⟩
  obtain ⟨eH, ch, hc, ex⟩ := hy
  subst eH
  refine ⟨fun _ _ z => z, .str ⟨#[ch]⟩, ?_, ex⟩
  unfold signs
  rw [List.getElem?_map, show z.cps.toList[i]? = some ch from by simpa using hc]
  rfl
theorem di_range1 {tg : Expr} {p : Pos} {pl : List D → Prop} (hm : X.mg "range" = none) (h : DA X W c [a] Γ (fun ds => ∃ j : Int, ds = [.int j] ∧ -(2 ^ 62) ≤ j ∧ j < 2 ^ 62 ∧ pl ((List.range j.toNat).map fun (i : Nat) => D.int (i : Int))) xp) (hg : Gl X "range" := by rfl) (hs : starEach [a] X.env = [(false, eval a X.env)] := by rfl) :
    DI X W c tg (.Call (.Name "range" p) [a] [] pos) Γ pl xp := fun u n H σ R A hn kn kx => by
  refine twi_of (pi_range1 hg hm (twa_pa X [a]) hs) ?_
  refine h u n H σ _ A hn (fun vs ds H1 e1 p1 r1 ⟨j, ed, h1, h2, q⟩ => ?_) kx
  subst ed
  obtain ⟨x, ev, rx⟩ := r1.one
  refine ⟨j, by rw [ev, show x = .int j from rx], h1, h2, kn _ _ H1 e1 p1 ⟨fun _ => True, _, by rw [List.length_map, List.length_range]; exact walk_range, fun _ _ => trivial, fun u' i H2 y H3 hp hF hd k hi hy => ?_⟩ q⟩
  obtain ⟨eH, ex⟩ := hy
  subst eH
  rw [List.length_map, List.length_range] at hi
  refine ⟨fun _ _ z => z, .int (i : Int), ?_, ?_⟩
  · rw [List.getElem?_map, List.getElem?_range hi]; rfl
  · show y = V.int (i : Int)
    rw [ex]; show V.int (0 + (i : Int)) = _; rw [Int.zero_add]
theorem di_range2 {tg : Expr} {p : Pos} {pl : List D → Prop} (hm : X.mg "range" = none) (h : DA X W c [a, b] Γ (fun ds => ∃ i j : Int, ds = [.int i, .int j] ∧ (-(2 ^ 62) ≤ i ∧ i < 2 ^ 62 ∧ -(2 ^ 62) ≤ j ∧ j < 2 ^ 62) ∧ pl ((List.range (j - i).toNat).map fun (k : Nat) => D.int (i + (k : Int)))) xp) (hg : Gl X "range" := by rfl)
    (hs : starEach [a, b] X.env = [(false, eval a X.env), (false, eval b X.env)] := by rfl) (hs2 : starEach [b] X.env = [(false, eval b X.env)] := by rfl) :
    DI X W c tg (.Call (.Name "range" p) [a, b] [] pos) Γ pl xp := fun u n H σ R A hn kn kx => by
  refine twi_of (pi_range2 hg hm (twa_pa X [a, b]) hs hs2) ?_
  refine h u n H σ _ A hn (fun vs ds H1 e1 p1 r1 ⟨i, j, ed, hb, q⟩ => ?_) kx
  subst ed
  obtain ⟨x, y, ev, rx, ry⟩ := r1.two
  refine ⟨i, j, by rw [ev, show x = .int i from rx, show y = .int j from ry], hb, kn _ _ H1 e1 p1 ⟨fun _ => True, _, by rw [List.length_map, List.length_range]; exact walk_range, fun _ _ => trivial, fun u' k H2 y H3 hp hF hd kk hi hy => ?_⟩ q⟩
  obtain ⟨eH, ex⟩ := hy
  subst eH
  rw [List.length_map, List.length_range] at hi
  refine ⟨fun _ _ z => z, .int (i + (k : Int)), ?_, ex⟩
  rw [List.getElem?_map, List.getElem?_range hi]; rfl
end
end Dx
-- DxG
namespace Dx
open PySem PySem.Spec PyProof.Rows L2
/-! ### the world grows, a made list is written -/
def U.more (u : U) (a : Addr) : U := ⟨fun b => u.F b ∨ b = a, u.p, u.cl⟩
theorem Pen.keep {u : U} {n : Nat} {H H' : Hp} (h : Pen u n H) (k : ∀ a o, H a = some o → H' a = some o) : Pen u n H' := by
  obtain ⟨ns, t, r, a1, a4, a5⟩ := h
  exact ⟨ns, t, r, k _ _ a1, k _ _ a4, a5⟩
theorem Pen.less {u u' : U} {n : Nat} {H : Hp} (h : Pen u' n H) (hp : u'.p = u.p) (hc : u'.cl = u.cl) : Pen u n H := by
  obtain ⟨ns, t, r, a1, a4, a5⟩ := h
  exact ⟨ns, t, r, by rw [← hp, ← hc]; exact a1, by rw [← hc]; exact a4, a5⟩
theorem Rep.less {u u' : U} {H : Hp} {d : D} {v : V} (r : Rep u' H d v) (hp : u'.p = u.p) (hF : ∀ a, u.F a → u'.F a) : Rep u H d v := Rep.mono (fun _ _ _ h => h) hp.symm (fun a _ f _ z => f (hF a z)) d v r
theorem RepL.less {u u' : U} {H : Hp} {d : List D} {v : List V} (r : RepL u' H d v) (hp : u'.p = u.p) (hF : ∀ a, u.F a → u'.F a) : RepL u H d v := RepL.mono (fun _ _ _ h => h) hp.symm (fun a _ f _ z => f (hF a z)) d v r
theorem exp_keep {p : Addr} {H H' : Hp} (k : ∀ a o, H a = some o → H' a = some o) : Exp p H H' := fun a o _ h => k a o h
section
variable {u : U} {n : Nat} {H : Hp} {σ : L2.St} {Γ : Gm} {a : Addr}
theorem more_kp {o : HO} (ha : H a = none) : Kp u.F H (upd H a o) := fun b q _ e => by rw [upd_ne (ne_of_none e ha)]; exact e
theorem more_nF (ha : H a = none) : ∀ b o, ¬ u.F b → H b = some o → ¬ (u.more a).F b := fun b o f e z => by
  rcases z with z | z
  · exact f z
  · rw [z, ha] at e; cases e
theorem Al.more (A : Al u n H) (o : HO) (ha : H a = none) : Al (u.more a) n (upd H a o) := by
  obtain ⟨ns, t, r, a1, a4, a5⟩ := A.pen
  refine ⟨.inl A.pF, fun z => more_nF ha _ _ A.cF a4 z, fun b f => ?_, ⟨ns, t, r, ?_, ?_, a5⟩⟩
  · rcases f with f | f
    · obtain ⟨q, hq⟩ := A.dom b f
      exact ⟨q, by rw [upd_ne (ne_of_none hq ha)]; exact hq⟩
    · exact ⟨o, by rw [f]; exact upd_same⟩
  · show upd H a o u.p = _
    rw [upd_ne (ne_of_none a1 ha)]; exact a1
  · show upd H a o u.cl = _
    rw [upd_ne (ne_of_none a4 ha)]; exact a4
theorem SlOk.more {x : Option (Option V)} {s : Sl} {o : HO} (h : SlOk u H x s) (ha : H a = none) : SlOk (u.more a) (upd H a o) x s := by
  have k : Kp u.F H (upd H a o) := more_kp ha
  have nf := more_nF (u := u) ha
  cases s with
  | no => trivial
  | va d => obtain ⟨v, h1, h2⟩ := h; exact ⟨v, h1, Rep.mono (u' := u.more a) k rfl nf d v h2⟩
  | li ds => obtain ⟨b, vs, h1, h2, h3, h4, h5⟩ := h; exact ⟨b, vs, h1, .inl h2, h3, by rw [upd_ne (ne_of_none h4 ha)]; exact h4, RepL.mono (u' := u.more a) k rfl nf ds vs h5⟩
  | di ds => obtain ⟨b, vs, h1, h2, h3, h4, h5⟩ := h; exact ⟨b, vs, h1, .inl h2, h3, by rw [upd_ne (ne_of_none h4 ha)]; exact h4, RepK.mono (u' := u.more a) k rfl nf ds vs h5⟩
  | ins b dx C ds => obtain ⟨vs, h1, h2, h3, h4, h5⟩ := h; exact ⟨vs, h1, .inl h2, h3, by rw [upd_ne (ne_of_none h4 ha)]; exact h4, RepF.mono (u' := u.more a) k rfl nf ds vs h5⟩
theorem At.more (A : At u n H σ Γ) (o : HO) (ha : H a = none) : At (u.more a) n (upd H a o) σ Γ := ⟨A.toAl.more o ha, A.len, fun i s g => (A.sl i s g).more ha, A.sep⟩
/-- no slot owns a -/
def NoOwn (σ : L2.St) (Γ : Gm) (a : Addr) : Prop := ∀ (i : Nat) (s : Sl), Γ[i]? = some s → s.own → σ[i]? ≠ some (some (.ref a))
theorem At.noOwn (A : At u n H σ Γ) (ha : H a = none) : NoOwn σ Γ a := fun i s g so e => by
  have h := A.sl i s g
  cases s with
  | no => exact so.elim
  | va d => exact so.elim
  | li ds => obtain ⟨b, vs, h1, h2, h3, h4, h5⟩ := h; rw [h1] at e; cases e; rw [ha] at h4; cases h4
  | di ds => obtain ⟨b, vs, h1, h2, h3, h4, h5⟩ := h; rw [h1] at e; cases e; rw [ha] at h4; cases h4
  | ins b dx C ds => obtain ⟨vs, h1, h2, h3, h4, h5⟩ := h; rw [h1] at e; cases e; rw [ha] at h4; cases h4
theorem updF_kp {o : HO} (fa : u.F a) : Kp u.F H (upd H a o) := fun b q f e => by rw [upd_ne (fun z => f (by rw [z]; exact fa))]; exact e
theorem Al.updF (A : Al u n H) (o : HO) (fa : u.F a) (np : a ≠ u.p) : Al u n (upd H a o) := by
  obtain ⟨ns, t, r, a1, a4, a5⟩ := A.pen
  refine ⟨A.pF, A.cF, fun b f => ?_, ⟨ns, t, r, by rw [upd_ne np.symm]; exact a1, by rw [upd_ne (fun z => A.cF (by rw [z]; exact fa))]; exact a4, a5⟩⟩
  by_cases hb : b = a
  · exact ⟨o, by rw [hb]; exact upd_same⟩
  · obtain ⟨q, hq⟩ := A.dom b f
    exact ⟨q, by rw [upd_ne hb]; exact hq⟩
theorem SlOk.updF {x : Option (Option V)} {s : Sl} {o : HO} (h : SlOk u H x s) (fa : u.F a) (hno : s.own → x ≠ some (some (.ref a))) : SlOk u (upd H a o) x s := by
  have k : Kp u.F H (upd H a o) := updF_kp fa
  cases s with
  | no => trivial
  | va d => obtain ⟨v, h1, h2⟩ := h; exact ⟨v, h1, Rep.mono k rfl (fun _ _ f _ => f) d v h2⟩
  | li ds => obtain ⟨b, vs, h1, h2, h3, h4, h5⟩ := h; exact ⟨b, vs, h1, h2, h3, by rw [upd_ne (fun z => hno trivial (by rw [h1, z]))]; exact h4, RepL.mono k rfl (fun _ _ f _ => f) ds vs h5⟩
  | di ds => obtain ⟨b, vs, h1, h2, h3, h4, h5⟩ := h; exact ⟨b, vs, h1, h2, h3, by rw [upd_ne (fun z => hno trivial (by rw [h1, z]))]; exact h4, RepK.mono k rfl (fun _ _ f _ => f) ds vs h5⟩
  | ins b dx C ds => obtain ⟨vs, h1, h2, h3, h4, h5⟩ := h; exact ⟨vs, h1, h2, h3, by rw [upd_ne (fun z => hno trivial (by rw [h1, z]))]; exact h4, RepF.mono k rfl (fun _ _ f _ => f) ds vs h5⟩
theorem At.updF (A : At u n H σ Γ) (o : HO) (fa : u.F a) (np : a ≠ u.p) (hno : NoOwn σ Γ a) : At u n (upd H a o) σ Γ := ⟨A.toAl.updF o fa np, A.len, fun i s g => (A.sl i s g).updF fa (hno i s g), A.sep⟩
/-- a slot is set to data -/
theorem At.setVa {j : Nat} {d : D} {v : V} (A : At u n H σ Γ) (r : Rep u H d v) : At u n H (σ.set j (some v)) (Γ.set j (.va d)) := by
  refine ⟨A.toAl, by simp [A.len], fun i s g => ?_, fun i k si sk b hik g1 g2 o1 o2 e1 e2 => ?_⟩
  · by_cases h : i = j
    · subst h
      by_cases hl : i < Γ.length
      · rw [List.getElem?_set_self hl] at g; cases g
        exact ⟨v, by rw [List.getElem?_set_self (by rw [A.len]; exact hl)], r⟩
      · rw [List.getElem?_eq_none (by simpa using hl)] at g; cases g
    · rw [List.getElem?_set_ne (Ne.symm h)] at g ⊢
      exact A.sl i s g
  · have nj : ∀ {m : Nat} {s : Sl}, (Γ.set j (.va d))[m]? = some s → s.own → m ≠ j := fun {m s} g o e => by
      subst e
      by_cases hl : m < Γ.length
      · rw [List.getElem?_set_self hl] at g; cases g; exact o
      · rw [List.getElem?_eq_none (by simpa using hl)] at g; cases g
    have n1 := nj g1 o1
    have n2 := nj g2 o2
    rw [List.getElem?_set_ne (Ne.symm n1)] at g1 e1
    rw [List.getElem?_set_ne (Ne.symm n2)] at g2 e2
    exact A.sep i k si sk b hik g1 g2 o1 o2 e1 e2
end
/-! ### list comprehensions -/
abbrev WN : WX := fun _ _ _ _ => False
theorem kxN {u : U} {n : Nat} {H : Hp} {σ : L2.St} {W : WX} : KX u n H σ XN W := fun _ _ _ _ _ _ _ _ h => h.elim
section
variable {X : Cx} {W : WX} {c c1 c2 c3 : Nat} {Γ : Gm} {post : D → Prop} {pb : Bool → Prop} {xp : XP} {a b e : Expr} {pos : Pos}
/-- the context of a comprehension's block -/
abbrev Blk (X : Cx) (scope : Scope) (s : Shared) (H : Hp) (C : Addr) (cl : List (Str × Addr)) (fp : List Addr) : Cx := X.blk s H scope (compEnvC scope cl C X.env) fp
/-- a list comprehension with its readings, as a value or stored -/
def DC (X : Cx) (W : WX) (c : Nat) (e : Expr) (Γ : Gm) (post : D → Prop) (xp : XP) : Prop :=
  ∃ (elt tg iter : Expr) (ifs : List Expr) (scope : Scope) (pos : Pos) (own : List (Str × Nat)) (wi : TI) (g : TG) (tt : TT) (te : TE), e = .ListComp elt [⟨tg, iter, ifs, 0⟩] scope pos ∧ BlkOk X.N X.env.scope scope own ∧ PI X tg iter wi ∧
    (∀ (s : Shared) (H : Hp) (C : Addr) (cl : List (Str × Addr)) (fp : List Addr), PG (Blk X scope s H C cl fp) tg g) ∧ (∀ (s : Shared) (H : Hp) (C : Addr) (cl : List (Str × Addr)) (fp : List Addr), PTs (Blk X scope s H C cl fp) ifs tt) ∧
    (∀ (s : Shared) (H : Hp) (C : Addr) (cl : List (Str × Addr)) (fp : List Addr), PE (Blk X scope s H C cl fp) elt te) ∧ (∀ x, foldedSetIterable iter X.env x = pure x) ∧
    ∀ (u : U) (n : Nat) (H : Hp) (σ : L2.St) (Q : VK), At u n H σ Γ → n + c ≤ lim → KN u (n + c) H post Q → KX u (n + c) H σ xp W → tLc wi g tt te (own.map (·.2)) σ H Q
theorem de_dc (hN : X.N.Nodup) (h : DC X W c e Γ post xp) (hc : X.calm = true := by rfl) : DE X W c e Γ post xp := fun u n H σ Q A hn kn kx => by
  obtain ⟨elt, tg, iter, ifs, scope, pos, own, wi, g, tt, te, rfl, ok, hi, hg, ht, he, hs, hq⟩ := h
  exact tw_of (pe_lc hc hN hi ok hg ht he hs) (hq u n H σ Q A hn kn kx)
theorem dc_main {elt iter : Expr} {ifs : List Expr} {scope : Scope} {x : Str} {j : Nat} {tp : Pos} {tt : TT} {te : TE} {m : Nat} (ok : BlkOk X.N X.env.scope scope [(x, j)])
    (hg : ∀ (s : Shared) (H : Hp) (C : Addr) (cl : List (Str × Addr)) (fp : List Addr), PG (Blk X scope s H C cl fp) (.Name x tp) (gName j))
    (ht : ∀ (s : Shared) (H : Hp) (C : Addr) (cl : List (Str × Addr)) (fp : List Addr), PTs (Blk X scope s H C cl fp) ifs tt) (he : ∀ (s : Shared) (H : Hp) (C : Addr) (cl : List (Str × Addr)) (fp : List Addr), PE (Blk X scope s H C cl fp) elt te)
    (hs : ∀ x, foldedSetIterable iter X.env x = pure x)
    (h : DI X W c1 (.Name x tp) iter Γ (fun ds => ds.length ≤ m ∧ ds.length ≤ 100000 ∧ ∃ I : Nat → List D → Prop, I 0 [] ∧ (∀ acc, I ds.length acc → post (.lst acc)) ∧
      ∀ (i : Nat) (d : D) (acc : List D), ds[i]? = some d → I i acc → ∀ (u' : U) (n' : Nat) (Hc : Hp) (σ' : L2.St) (Qy : VK) (Qn : Hp → Prop), At u' n' Hc σ' (Γ.set j (.va d)) → n' + c2 ≤ lim →
        (∀ y dy H4, Exp u'.p Hc H4 → Pen u' (n' + c2) H4 → Rep u' H4 dy y → I (i + 1) (acc ++ [dy]) → Qy y H4) → (∀ H4, Exp u'.p Hc H4 → Pen u' (n' + c2) H4 → I (i + 1) acc → Qn H4) → tt σ' Hc fun b H3 => if b = true then te σ' H3 Qy else Qn H3) xp) :
    DC X W (c1 + m * c2) (.ListComp elt [⟨.Name x tp, iter, ifs, 0⟩] scope pos) Γ post xp := by
  refine ⟨elt, .Name x tp, iter, ifs, scope, pos, [(x, j)], TWI X (.Name x tp) iter, gName j, tt, te, rfl, ok, twi_pi X _ iter, hg, ht, he, hs, fun u n H σ Q A hn kn kx => ?_⟩
  refine h u n H σ _ A (by omega) (fun J ds H1 e1 p1 wk ⟨hm, hz, I, h0, hd, hst⟩ => ?_) (kx.go Exp.refl (by omega))
  have A1 := A.step e1 p1
  intro Dl hD
  obtain ⟨G, Y, wl, hG, hY⟩ := wk.ex
  have nDp : Dl ≠ u.p := fun z => by
    obtain ⟨o, ho⟩ := A1.dom _ A1.pF
    rw [← z, hD] at ho; cases ho
  have hno := A1.noOwn hD
  have hset : ∀ v : Option V, wipe ((wipe σ [j]).set j v) [j] = wipe σ [j] := fun v => by
    show (((σ.set j none).set j v)).set j none = σ.set j none
    rw [List.set_set, List.set_set]
  have hset2 : ∀ v : V, (wipe σ [j]).set j (some v) = σ.set j (some v) := fun v => by
    show (σ.set j none).set j (some v) = _
    rw [List.set_set]
  have hmul : ∀ i, i ≤ ds.length → i * c2 ≤ m * c2 := fun i hi => Nat.mul_le_mul_right _ (Nat.le_trans hi hm)
  refine lc_it wl (fun i Hc => ∃ acc dacc, Exp u.p H1 Hc ∧ At (u.more Dl) (n + c1 + i * c2) Hc σ Γ ∧ Hc Dl = some (.lst acc) ∧ RepL (u.more Dl) Hc dacc acc ∧ acc.length ≤ i ∧ I i dacc) ?_ (fun i Hc _ ⟨_, _, ee, _⟩ => hG Hc (ee.kp A1.toAl)) (fun i v Hc Hc' hi ⟨acc, dacc, ee, AA, hacc, ra, hl, hI⟩ hy => ?_) (fun Hc ⟨acc, dacc, ee, AA, hacc, ra, hl, hI⟩ => ?_)
  · exact ⟨[], [], Exp.new hD, by simpa using A1.more (.lst []) hD, upd_same, RepL.nil, Nat.le_refl _, h0⟩
  · obtain ⟨kp, d, hd', rd⟩ := hY (u.more Dl) i Hc v Hc' rfl (more_nF hD) AA.dom (ee.kp A1.toAl) hi hy
    show wipe ((wipe σ [j]).set j (some v)) [j] = wipe σ [j] ∧ tt ((wipe σ [j]).set j (some v)) Hc' _
    refine ⟨hset _, ?_⟩
    rw [hset2, show (wipe σ (List.map (fun x => x.snd) [(x, j)])).set j (some v) = σ.set j (some v) from hset2 v]
    have B : At (u.more Dl) (n + c1 + i * c2) Hc' (σ.set j (some v)) (Γ.set j (.va d)) := (AA.step (exp_keep kp) (AA.pen.keep kp)).setVa rd
    have hb := hmul (i + 1) hi
    have hs1 : (i + 1) * c2 = i * c2 + c2 := by rw [Nat.succ_mul]
    refine hst i d dacc hd' hI (u.more Dl) _ Hc' _ _ _ B (by omega) (fun y dy H4 e4 p4 r4 q4 => ?_) (fun H4 e4 p4 q4 => ?_)
    · have h4 : H4 Dl = some (.lst acc) := e4 Dl _ nDp (kp _ _ hacc)
      have A4 : At (u.more Dl) (n + c1 + i * c2 + c2) H4 σ Γ := (AA.step (exp_keep kp) (AA.pen.keep kp)).step e4 p4
      have ka : Kp (u.more Dl).F H4 (upd H4 Dl (.lst (acc ++ [y]))) := updF_kp (.inr rfl)
      refine ⟨acc, h4, Nat.lt_of_le_of_lt (Nat.le_trans hl (Nat.le_of_lt hi)) (Nat.lt_of_le_of_lt hz (by decide)), acc ++ [y], dacc ++ [dy], ?_, ?_, upd_same, ?_, by simpa using hl, q4⟩
      · intro q o nq hq
        rw [upd_ne (ne_of_none hq hD)]
        exact e4 q o nq (kp _ _ (ee q o nq hq))
      · have := A4.updF (.lst (acc ++ [y])) (.inr rfl) nDp hno
        rw [hs1, ← Nat.add_assoc]; exact this
      · have r0 : RepL (u.more Dl) H4 dacc acc := RepL.mono (fun q o f g => e4 q o (fun z => f (by rw [z]; exact AA.pF)) (kp _ _ g)) rfl (fun _ _ f _ => f) _ _ ra
        exact (RepL.append (RepL.mono ka rfl (fun _ _ f _ => f) _ _ r0) (RepL.cons (Rep.mono ka rfl (fun _ _ f _ => f) _ _ r4) RepL.nil))
    · have h4 : H4 Dl = some (.lst acc) := e4 Dl _ nDp (kp _ _ hacc)
      have A4 : At (u.more Dl) (n + c1 + i * c2 + c2) H4 σ Γ := (AA.step (exp_keep kp) (AA.pen.keep kp)).step e4 p4
      refine ⟨acc, dacc, fun q o nq hq => e4 q o nq (kp _ _ (ee q o nq hq)), ?_, h4, ?_, Nat.le_succ_of_le hl, q4⟩
      · rw [hs1, ← Nat.add_assoc]; exact A4
      · exact RepL.mono (fun q o f g => e4 q o (fun z => f (by rw [z]; exact AA.pF)) (kp _ _ g)) rfl (fun _ _ f _ => f) _ _ ra
  · have hb := hmul ds.length (Nat.le_refl _)
    have hle : ∀ q, u.F q → (u.more Dl).F q := fun q f => .inl f
    exact kn (.ref Dl) (.lst dacc) Hc (e1.trans ee) ((AA.pen.less (u := u) rfl rfl).up (by omega)) ⟨Dl, acc, rfl, A1.toAl.notF hD, hacc, ra.less rfl hle⟩ (hd dacc hI)
/-- [elt for x in iter] -/
theorem dc_lc {elt iter : Expr} {scope : Scope} {x : Str} (j : Nat) {tp : Pos} (m : Nat) (ok : BlkOk X.N X.env.scope scope [(x, j)])
    (hg : ∀ (s : Shared) (H : Hp) (C : Addr) (cl : List (Str × Addr)) (fp : List Addr), PG (Blk X scope s H C cl fp) (.Name x tp) (gName j))
    (h : DI X W c1 (.Name x tp) iter Γ (fun ds => ds.length ≤ m ∧ ds.length ≤ 100000 ∧ ∃ I : Nat → List D → Prop, I 0 [] ∧ (∀ acc, I ds.length acc → post (.lst acc)) ∧
      ∀ (i : Nat) (d : D) (acc : List D), ds[i]? = some d → I i acc → ∀ (s : Shared) (H : Hp) (C : Addr) (cl : List (Str × Addr)) (fp : List Addr), DE (Blk X scope s H C cl fp) WN c2 elt (Γ.set j (.va d)) (fun dy => I (i + 1) (acc ++ [dy])) XN) xp)
    (hs : ∀ x, foldedSetIterable iter X.env x = pure x := by intro _; rfl) : DC X W (c1 + m * c2) (.ListComp elt [⟨.Name x tp, iter, [], 0⟩] scope pos) Γ post xp := by
  refine dc_main (tt := tYes) (te := fun σ H Q => ∀ (s : Shared) (H0 : Hp) (C : Addr) (cl : List (Str × Addr)) (fp : List Addr), TW (Blk X scope s H0 C cl fp) elt σ H Q) ok hg (fun _ _ _ _ _ => pts_nil) (fun s H C cl fp => ⟨fun pins s' σ H' Q I h => h s H C cl fp pins s' I⟩) hs (fun u n H σ R A hn kn kx => h u n H σ R A hn (fun J ds H' e p w ⟨h1, h2, I, h3, h4, h5⟩ => kn J ds H' e p w ⟨h1, h2, I, h3, h4, fun i d acc hd hI u' n' Hc σ' Qy Qn A' hn' ky _ s H C cl fp => ?_⟩) kx)
  exact h5 i d acc hd hI s H C cl fp u' n' Hc σ' Qy A' hn' (fun v d' H' e p r q => ky v d' H' e p r q) kxN
/-- [elt for x in iter if t] -/
theorem dc_lcif {elt iter t : Expr} {scope : Scope} {x : Str} (j : Nat) {tp : Pos} (m : Nat) (ok : BlkOk X.N X.env.scope scope [(x, j)])
    (hg : ∀ (s : Shared) (H : Hp) (C : Addr) (cl : List (Str × Addr)) (fp : List Addr), PG (Blk X scope s H C cl fp) (.Name x tp) (gName j))
    (h : DI X W c1 (.Name x tp) iter Γ (fun ds => ds.length ≤ m ∧ ds.length ≤ 100000 ∧ ∃ I : Nat → List D → Prop, I 0 [] ∧ (∀ acc, I ds.length acc → post (.lst acc)) ∧
      ∀ (i : Nat) (d : D) (acc : List D), ds[i]? = some d → I i acc → ∀ (s : Shared) (H : Hp) (C : Addr) (cl : List (Str × Addr)) (fp : List Addr), DT (Blk X scope s H C cl fp) WN c2 t (Γ.set j (.va d)) (fun k => (k = true → ∀ (s : Shared) (H : Hp) (C : Addr) (cl : List (Str × Addr)) (fp : List Addr), DE (Blk X scope s H C cl fp) WN c3 elt (Γ.set j (.va d)) (fun dy => I (i + 1) (acc ++ [dy])) XN) ∧ (k = false → I (i + 1) acc)) XN) xp)
    (hs : ∀ x, foldedSetIterable iter X.env x = pure x := by intro _; rfl) : DC X W (c1 + m * (c2 + c3)) (.ListComp elt [⟨.Name x tp, iter, [t], 0⟩] scope pos) Γ post xp := by
  refine dc_main (tt := fun σ H Q => ∀ (s : Shared) (H0 : Hp) (C : Addr) (cl : List (Str × Addr)) (fp : List Addr), TWT (Blk X scope s H0 C cl fp) t σ H Q) (te := fun σ H Q => ∀ (s : Shared) (H0 : Hp) (C : Addr) (cl : List (Str × Addr)) (fp : List Addr), TW (Blk X scope s H0 C cl fp) elt σ H Q) ok hg (fun s H C cl fp => pts_one ⟨fun pins s' σ H' Q I h => h s H C cl fp pins s' I⟩) (fun s H C cl fp => ⟨fun pins s' σ H' Q I h => h s H C cl fp pins s' I⟩) hs (fun u n H σ R A hn kn kx => h u n H σ R A hn (fun J ds H' e p w ⟨h1, h2, I, h3, h4, h5⟩ => kn J ds H' e p w ⟨h1, h2, I, h3, h4, fun i d acc hd hI u' n' Hc σ' Qy Qn A' hn' ky kn' s H C cl fp => ?_⟩) kx)
  refine h5 i d acc hd hI s H C cl fp u' n' Hc σ' _ A' (by omega) (fun b H3 e3 p3 ⟨q1, q2⟩ => ?_) kxN
  cases b with
  | true =>
    intro s2 H2 C2 cl2 fp2
    have A3 := A'.step e3 p3
    exact q1 rfl s2 H2 C2 cl2 fp2 u' (n' + c2) H3 σ' Qy A3 (by omega) (fun v d' H' e p r q => ky v d' H' (e3.trans e) (by rw [← Nat.add_assoc]; exact p) r q) kxN
  | false => exact kn' H3 e3 (p3.up (by omega)) (q2 rfl)
end
end Dx
-- DxH
namespace Dx
open PySem PySem.Spec PyProof.Rows L2
/-! ### owned slots read as data -/
def Sl.sh : Sl → Sl
  | .li ds => .va (.lst ds)
  | .di kvs => .va (.dic kvs)
  | .ins _ _ C fs => .va (.obj C fs)
  | .va d => .va d
  | .no => .no
def shG (Γ : Gm) : Gm := Γ.map Sl.sh
theorem Sl.sh_own (s : Sl) : ¬ s.sh.own := by cases s <;> exact fun h => h
def U.shF (u : U) (σ : L2.St) (Γ : Gm) : U := ⟨fun a => u.F a ∧ NoOwn σ Γ a, u.p, u.cl⟩
section
variable {u : U} {n m : Nat} {H H' : Hp} {σ : L2.St} {Γ : Gm} {a : Addr}
theorem At.ownNe (A : At u n H σ Γ) {i : Nat} {s : Sl} (g : Γ[i]? = some s) (o : s.own) (e : σ[i]? = some (some (.ref a))) : u.F a ∧ a ≠ u.p ∧ ∃ q, H a = some q := by
  have h := A.sl i s g
  cases s with
  | no => exact o.elim
  | va d => exact o.elim
  | li ds => obtain ⟨b, vs, h1, h2, h3, h4, h5⟩ := h; rw [h1] at e; cases e; exact ⟨h2, h3, _, h4⟩
  | di ds => obtain ⟨b, vs, h1, h2, h3, h4, h5⟩ := h; rw [h1] at e; cases e; exact ⟨h2, h3, _, h4⟩
  | ins b dx C ds => obtain ⟨vs, h1, h2, h3, h4, h5⟩ := h; rw [h1] at e; cases e; exact ⟨h2, h3, _, h4⟩
theorem At.share (A : At u n H σ Γ) : At (u.shF σ Γ) n H σ (shG Γ) := by
  refine ⟨⟨⟨A.pF, fun i s g o e => (A.ownNe g o e).2.1 rfl⟩, fun z => A.cF z.1, fun b f => A.dom b f.1, A.pen⟩, by simp [shG, A.len], fun i s g => ?_, fun i j si sj b hij g1 g2 o1 => ?_⟩
  · unfold shG at g
    rw [List.getElem?_map] at g
    cases e : Γ[i]? with
    | none => rw [e] at g; cases g
    | some s0 =>
      rw [e] at g
      cases g
      have h := A.sl i s0 e
      have le : ∀ q, (u.shF σ Γ).F q → u.F q := fun q z => z.1
      cases s0 with
      | no => trivial
      | va d => obtain ⟨v, h1, h2⟩ := h; exact ⟨v, h1, Rep.less (u := u.shF σ Γ) h2 rfl le⟩
      | li ds => obtain ⟨b, vs, h1, h2, h3, h4, h5⟩ := h; exact ⟨.ref b, h1, b, vs, rfl, fun z => z.2 i _ e trivial h1, h4, RepL.less (u := u.shF σ Γ) h5 rfl le⟩
      | di ds => obtain ⟨b, vs, h1, h2, h3, h4, h5⟩ := h; exact ⟨.ref b, h1, b, vs, rfl, fun z => z.2 i _ e trivial h1, h4, RepK.mono (u := u) (u' := u.shF σ Γ) (fun _ _ _ q => q) rfl (fun (q : Addr) _ (f : ¬ u.F q) _ z => f (le q z)) _ _ h5⟩
      | ins b dx C ds => obtain ⟨vs, h1, h2, h3, h4, h5⟩ := h; exact ⟨.ref b, h1, b, dx, vs, rfl, fun z => z.2 i _ e trivial h1, h4, RepF.mono (u := u) (u' := u.shF σ Γ) (fun _ _ _ q => q) rfl (fun (q : Addr) _ (f : ¬ u.F q) _ z => f (le q z)) _ _ h5⟩
  · unfold shG at g1
    rw [List.getElem?_map] at g1
    cases e : Γ[i]? with
    | none => rw [e] at g1; cases g1
    | some s0 =>
      rw [e] at g1; cases g1
      exact absurd o1 (Sl.sh_own s0)
/-- values without an address -/
def Scal : D → Prop
  | .non => True | .bl _ => True | .int _ => True | .str _ => True | .ty _ => True | .ref _ => True | _ => False
theorem Rep.scal {u u' : U} {H H' : Hp} {d : D} {v : V} (s : Scal d) (r : Rep u H d v) : Rep u' H' d v := by
  cases d with
  | non => exact r
  | bl _ => exact r
  | int _ => exact r
  | str _ => exact r
  | ty _ => exact r
  | ref _ => exact r
  | pen => exact s.elim
  | tup _ => exact s.elim
  | lst _ => exact s.elim
  | dic _ => exact s.elim
  | obj _ _ => exact s.elim
/-- a slot is set to an owned thing -/
theorem At.setOwn {j : Nat} {s : Sl} (A : At u n H σ Γ) (hs : SlOk u H (some (some (.ref a))) s) (hno : ∀ (i : Nat) (s : Sl), i ≠ j → Γ[i]? = some s → s.own → σ[i]? ≠ some (some (.ref a))) : At u n H (σ.set j (some (.ref a))) (Γ.set j s) := by
  refine ⟨A.toAl, by simp [A.len], fun i s' g => ?_, fun i k si sk b hik g1 g2 o1 o2 e1 e2 => ?_⟩
  · by_cases h : i = j
    · subst h
      by_cases hl : i < Γ.length
      · rw [List.getElem?_set_self hl] at g; cases g
        rw [List.getElem?_set_self (by rw [A.len]; exact hl)]; exact hs
      · rw [List.getElem?_eq_none (by simpa using hl)] at g; cases g
    · rw [List.getElem?_set_ne (Ne.symm h)] at g ⊢
      exact A.sl i s' g
  · by_cases h1 : i = j
    · have h2 : k ≠ j := fun z => hik (h1.trans z.symm)
      subst h1
      rw [List.getElem?_set_ne (Ne.symm h2)] at g2 e2
      have hi : i < σ.length := by
        by_cases hl : i < σ.length
        · exact hl
        · rw [List.getElem?_eq_none (by simpa using hl)] at e1; cases e1
      rw [List.getElem?_set_self hi] at e1; cases e1
      exact hno k sk h2 g2 o2 e2
    · rw [List.getElem?_set_ne (Ne.symm h1)] at g1 e1
      by_cases h2 : k = j
      · subst h2
        have hi : k < σ.length := by
          by_cases hl : k < σ.length
          · exact hl
          · rw [List.getElem?_eq_none (by simpa using hl)] at e2; cases e2
        rw [List.getElem?_set_self hi] at e2; cases e2
        exact hno i si h1 g1 o1 e1
      · rw [List.getElem?_set_ne (Ne.symm h2)] at g2 e2
        exact A.sep i k si sk b hik g1 g2 o1 o2 e1 e2
end
/-! ### a body's state -/
def ExM (M : Addr → Prop) (H0 H : Hp) : Prop := (∀ a o, ¬ M a → H0 a = some o → H a = some o) ∧ ∀ a o, H0 a = some o → ∃ o', H a = some o'
theorem ExM.refl {M : Addr → Prop} {H : Hp} : ExM M H H := ⟨fun _ _ _ h => h, fun _ o h => ⟨o, h⟩⟩
structure Bs (u : U) (M : Addr → Prop) (H0 : Hp) : Prop where
  pF : u.F u.p
  cF : ¬ u.F u.cl
  dom : ∀ a, u.F a → ∃ o, H0 a = some o
  mp : M u.p
  mu : ∀ a, M a → u.F a → a = u.p
/-- the state, F' told -/
structure S5 (u : U) (M : Addr → Prop) (H0 : Hp) (F : Addr → Prop) (n : Nat) (H : Hp) (σ : L2.St) (Γ : Gm) : Prop where
  up : ∀ a, u.F a → F a
  new : ∀ a, F a → u.F a ∨ M a ∨ H0 a = none
  at_ : At ⟨F, u.p, u.cl⟩ n H σ Γ
  own : ∀ (i : Nat) (s : Sl) (a : Addr), Γ[i]? = some s → s.own → σ[i]? = some (some (.ref a)) → M a ∨ H0 a = none
  ex : ExM M H0 H
def StOk (u : U) (M : Addr → Prop) (H0 : Hp) (n : Nat) (H : Hp) (σ : L2.St) (Γ : Gm) : Prop := ∃ F, S5 u M H0 F n H σ Γ
section
variable {u : U} {M : Addr → Prop} {H0 H H' : Hp} {F : Addr → Prop} {n m : Nat} {σ : L2.St} {Γ : Gm} {a : Addr}
theorem ExM.exp (h : ExM M H0 H) (mp : M u.p) (e : Exp u.p H H') (hp : ∃ o, H' u.p = some o) : ExM M H0 H' := by
  refine ⟨fun b o nm g => e b o (fun z => nm (by rw [z]; exact mp)) (h.1 b o nm g), fun b o g => ?_⟩
  by_cases hb : b = u.p
  · rw [hb]; exact hp
  · obtain ⟨o', q⟩ := h.2 b o g
    exact ⟨o', e b o' hb q⟩
theorem Pen.there (h : Pen u n H) : ∃ o, H u.p = some o := by
  obtain ⟨ns, t, r, a1, _⟩ := h
  exact ⟨_, a1⟩
theorem S5.step (S : S5 u M H0 F n H σ Γ) (B : Bs u M H0) (e : Exp u.p H H') (p : Pen u m H') : S5 u M H0 F m H' σ Γ :=
  ⟨S.up, S.new, S.at_.step e p, S.own, S.ex.exp B.mp e p.there⟩
theorem S5.upn (S : S5 u M H0 F n H σ Γ) (h : n ≤ m) : S5 u M H0 F m H σ Γ := ⟨S.up, S.new, S.at_.up h, S.own, S.ex⟩
theorem set_get {α : Type} {l : List α} {i j : Nat} {x y : α} (h : (l.set j x)[i]? = some y) : (i = j ∧ y = x) ∨ (i ≠ j ∧ l[i]? = some y) := by
  by_cases e : i = j
  · subst e
    by_cases hl : i < l.length
    · rw [List.getElem?_set_self hl] at h; cases h; exact .inl ⟨rfl, rfl⟩
    · rw [List.getElem?_eq_none (by simpa using hl)] at h; cases h
  · rw [List.getElem?_set_ne (Ne.symm e)] at h; exact .inr ⟨e, h⟩
theorem S5.setVa {j : Nat} {d : D} {v : V} (S : S5 u M H0 F n H σ Γ) (r : Rep ⟨F, u.p, u.cl⟩ H d v) : S5 u M H0 F n H (σ.set j (some v)) (Γ.set j (.va d)) := by
  refine ⟨S.up, S.new, S.at_.setVa r, fun i s a g o e => ?_, S.ex⟩
  rcases set_get g with ⟨_, q⟩ | ⟨ne, g'⟩
  · subst q; exact o.elim
  · rw [List.getElem?_set_ne (Ne.symm ne)] at e
    exact S.own i s a g' o e
theorem S5.noOwn (S : S5 u M H0 F n H σ Γ) (B : Bs u M H0) {b : Addr} (f : u.F b) : NoOwn σ Γ b := fun i s g o e => by
  rcases S.own i s b g o e with h | h
  · exact (S.at_.ownNe g o e).2.1 (B.mu b h f)
  · obtain ⟨q, hq⟩ := B.dom b f
    rw [hq] at h; cases h
/-- what is owned is given up -/
theorem S5.share (S : S5 u M H0 F n H σ Γ) (B : Bs u M H0) : S5 u M H0 (U.shF ⟨F, u.p, u.cl⟩ σ Γ).F n H σ (shG Γ) := by
  refine ⟨fun b f => ⟨S.up b f, S.noOwn B f⟩, fun b f => S.new b f.1, S.at_.share, fun i s b g o e => ?_, S.ex⟩
  unfold shG at g
  rw [List.getElem?_map] at g
  cases e' : Γ[i]? with
  | none => rw [e'] at g; cases g
  | some s0 => rw [e'] at g; cases g; exact absurd o (Sl.sh_own s0)
end
structure Out where
  nx : Gm → Prop
  rt : D → Prop
  bk : Gm → Prop := fun _ => False
  ct : Gm → Prop := fun _ => False
structure TWS (X : Cx) (st : Stmt) (D : Ends) (σ : L2.St) (H : Hp) : Prop where
  run : ∀ (pins : List (Addr × Obj)) (s : Shared), Inv X pins σ H s → wpAny (model X.prog X.w) X.A (exec st X.env) (SP X pins D) X.xe s
instance {X : Cx} {st : Stmt} {D : Ends} {σ : L2.St} {H : Hp} : CoeFun (TWS X st D σ H) fun _ => ∀ (pins : List (Addr × Obj)) (s : Shared), Inv X pins σ H s → wpAny (model X.prog X.w) X.A (exec st X.env) (SP X pins D) X.xe s := ⟨TWS.run⟩
structure TWSs (X : Cx) (st : List Stmt) (D : Ends) (σ : L2.St) (H : Hp) : Prop where
  run : ∀ (pins : List (Addr × Obj)) (s : Shared), Inv X pins σ H s → wpAny (model X.prog X.w) X.A (execs st X.env) (SP X pins D) X.xe s
instance {X : Cx} {st : List Stmt} {D : Ends} {σ : L2.St} {H : Hp} : CoeFun (TWSs X st D σ H) fun _ => ∀ (pins : List (Addr × Obj)) (s : Shared), Inv X pins σ H s → wpAny (model X.prog X.w) X.A (execs st X.env) (SP X pins D) X.xe s := ⟨TWSs.run⟩
theorem tws_ps (X : Cx) (st : Stmt) : PS X st (TWS X st) := ⟨fun pins s σ H D I h => h pins s I⟩
theorem twss_pss (X : Cx) (st : List Stmt) : PSs X st (TWSs X st) := ⟨fun pins s σ H D I h => h pins s I⟩
theorem tws_of {X : Cx} {st : Stmt} {t : TS} {D : Ends} {σ : L2.St} {H : Hp} (h : PS X st t) (q : t D σ H) : TWS X st D σ H := TWS.mk fun pins s I => h.run pins s σ H D I q
theorem twss_of {X : Cx} {st : List Stmt} {t : TS} {D : Ends} {σ : L2.St} {H : Hp} (h : PSs X st t) (q : t D σ H) : TWSs X st D σ H := TWSs.mk fun pins s I => h.run pins s σ H D I q
/-- the wishes about a body's ends -/
structure Ko (u : U) (M : Addr → Prop) (H0 : Hp) (n : Nat) (O : Out) (xp : XP) (W : WX) (D : Ends) : Prop where
  nx : ∀ Γ σ H, StOk u M H0 n H σ Γ → O.nx Γ → D.nx σ H
  rt : ∀ v d H, ExM M H0 H → Pen u n H → Rep u H d v → O.rt d → D.rt v H
  bk : ∀ Γ σ H, StOk u M H0 n H σ Γ → O.bk Γ → D.bk σ H
  ct : ∀ Γ σ H, StOk u M H0 n H σ Γ → O.ct Γ → D.ct σ H
  xx : ∀ cls od C fs σ H, ExM M H0 H → Pen u n H → RepX u H cls od C fs → xp C fs → W cls od σ H
theorem StOk.up {u : U} {M : Addr → Prop} {H0 H : Hp} {n m : Nat} {σ : L2.St} {Γ : Gm} (S : StOk u M H0 n H σ Γ) (h : n ≤ m) : StOk u M H0 m H σ Γ := by
  obtain ⟨F, S⟩ := S
  exact ⟨F, S.upn h⟩
theorem Ko.le {u : U} {M : Addr → Prop} {H0 : Hp} {n m : Nat} {O : Out} {xp : XP} {W : WX} {D : Ends} (k : Ko u M H0 n O xp W D) (h : m ≤ n) : Ko u M H0 m O xp W D :=
  ⟨fun Γ σ H s q => k.nx Γ σ H (s.up h) q, fun v d H e p r q => k.rt v d H e (p.up h) r q, fun Γ σ H s q => k.bk Γ σ H (s.up h) q, fun Γ σ H s q => k.ct Γ σ H (s.up h) q, fun cls od C fs σ H e p r q => k.xx cls od C fs σ H e (p.up h) r q⟩
def DSt (X : Cx) (W : WX) (c : Nat) (st : Stmt) (Γ : Gm) (O : Out) (xp : XP) : Prop :=
  ∀ (u : U) (M : Addr → Prop) (H0 : Hp) (n : Nat) (H : Hp) (σ : L2.St) (D : Ends), Bs u M H0 → StOk u M H0 n H σ Γ → n + c ≤ lim → Ko u M H0 (n + c) O xp W D → TWS X st D σ H
def DB (X : Cx) (W : WX) (c : Nat) (st : List Stmt) (Γ : Gm) (O : Out) (xp : XP) : Prop :=
  ∀ (u : U) (M : Addr → Prop) (H0 : Hp) (n : Nat) (H : Hp) (σ : L2.St) (D : Ends), Bs u M H0 → StOk u M H0 n H σ Γ → n + c ≤ lim → Ko u M H0 (n + c) O xp W D → TWSs X st D σ H
section
variable {X : Cx} {W : WX} {c c1 c2 c3 : Nat} {Γ : Gm} {O : Out} {xp : XP} {a b e : Expr} {pos : Pos} {st : Stmt} {sts : List Stmt}
theorem db_le (h : DB X W c sts Γ O xp) (hc : c ≤ c1) : DB X W c1 sts Γ O xp := fun u M H0 n H σ D B S hn k => h u M H0 n H σ D B S (by omega) (k.le (by omega))
theorem ds_le (h : DSt X W c st Γ O xp) (hc : c ≤ c1) : DSt X W c1 st Γ O xp := fun u M H0 n H σ D B S hn k => h u M H0 n H σ D B S (by omega) (k.le (by omega))
theorem db_nil (q : O.nx Γ) : DB X W 0 [] Γ O xp := fun u M H0 n H σ D B S hn k => twss_of pss_nil (k.nx Γ σ H S q)
theorem db_cons (h : DSt X W c1 st Γ { O with nx := fun Γ' => DB X W c2 sts Γ' O xp } xp) : DB X W (c1 + c2) (st :: sts) Γ O xp := fun u M H0 n H σ D B S hn k => by
  refine twss_of (pss_cons (tws_ps X st) (twss_pss X sts)) ?_
  refine h u M H0 n H σ { D with nx := TWSs X sts D } B S (by omega) ⟨fun Γ' σ' H' S' q => ?_, (k.le (by omega)).rt, (k.le (by omega)).bk, (k.le (by omega)).ct, (k.le (by omega)).xx⟩
  exact q u M H0 (n + c1) H' σ' D B S' (by omega) (k.le (by omega))
/-- code that is never come to -/
theorem db_never {Γ : Gm} (h : False) : DB X W 0 sts Γ O xp := h.elim
theorem ds_pass (q : O.nx Γ) : DSt X W 0 (.Pass pos) Γ O xp := fun u M H0 n H σ D B S hn k => tws_of ps_pass (k.nx Γ σ H S q)
theorem ds_break (q : O.bk Γ) : DSt X W 0 (.Break pos) Γ O xp := fun u M H0 n H σ D B S hn k => tws_of ps_break (k.bk Γ σ H S q)
theorem ds_cont (q : O.ct Γ) : DSt X W 0 (.Continue pos) Γ O xp := fun u M H0 n H σ D B S hn k => tws_of ps_continue (k.ct Γ σ H S q)
/-- the exceptions of an evaluation -/
theorem Ko.kx {u : U} {M : Addr → Prop} {H0 H : Hp} {F : Addr → Prop} {n m : Nat} {σ : L2.St} {D : Ends} (k : Ko u M H0 n O xp W D) (B : Bs u M H0) (u' : U) (hp : u'.p = u.p) (hc : u'.cl = u.cl) (hF : ∀ a, u.F a → u'.F a) (hx : ExM M H0 H) (hm : m ≤ n) : KX u' m H σ xp W := fun cls od C fs H' e p r q => by
  have p' : Pen u m H' := p.less hp hc
  refine k.xx cls od C fs σ H' (hx.exp B.mp (by rw [← hp]; exact e) p'.there) (p'.up hm) ?_ q
  obtain ⟨e1, h⟩ := r
  refine ⟨e1, ?_⟩
  rcases h with h | ⟨dd, us, h1, h2, h3, h4⟩
  · exact .inl h
  · exact .inr ⟨dd, us, h1, fun z => h2 (hF _ z), h3, RepF.mono (u' := u) (fun _ _ _ q => q) hp.symm (fun q _ f _ z => f (hF q z)) _ _ h4⟩
/-- x = e -/
theorem ds_asg (i : Nat) {x : Str} {p' : Pos} (hN : X.N.Nodup) (h : DE X W c e Γ (fun d => O.nx (Γ.set i (.va d))) xp) (hi : X.N[i]? = some x := by rfl) (hx : L2.Loc X.env.scope x := by first | exact Or.inl rfl | exact Or.inr rfl) (hs : swapsWith e (some (.Name x p')) pos.line X.env = pure false := by rfl)
    (hf : X.fn x = true ∨ X.env.scope.names.lookup x = some .local := by first | exact Or.inl rfl | exact Or.inr rfl) : DSt X W c (.Assign [.Name x p'] e pos) Γ O xp := fun u M H0 n H σ D B S hn k => by
  obtain ⟨F, S⟩ := S
  refine tws_of (ps_set hN hi hx (tw_pe X e) hs hf) ?_
  refine h ⟨F, u.p, u.cl⟩ n H σ _ S.at_ hn (fun v d H' e1 p1 r1 q => ?_) (k.kx (F := F) B _ rfl rfl S.up S.ex (Nat.le_refl _))
  exact k.nx _ _ _ ⟨F, (S.step B e1 p1).setVa r1⟩ q
/-- .. e reads what is owned, and is a scalar -/
theorem ds_asgS (i : Nat) {x : Str} {p' : Pos} (hN : X.N.Nodup) (h : DE X W c e (shG Γ) (fun d => Scal d ∧ O.nx (Γ.set i (.va d))) xp) (hi : X.N[i]? = some x := by rfl) (hx : L2.Loc X.env.scope x := by first | exact Or.inl rfl | exact Or.inr rfl) (hs : swapsWith e (some (.Name x p')) pos.line X.env = pure false := by rfl)
    (hf : X.fn x = true ∨ X.env.scope.names.lookup x = some .local := by first | exact Or.inl rfl | exact Or.inr rfl) : DSt X W c (.Assign [.Name x p'] e pos) Γ O xp := fun u M H0 n H σ D B S hn k => by
  obtain ⟨F, S⟩ := S
  refine tws_of (ps_set hN hi hx (tw_pe X e) hs hf) ?_
  refine h _ n H σ _ S.at_.share hn (fun v d H' e1 p1 r1 ⟨hs, q⟩ => ?_) (k.kx (F := F) B _ rfl rfl (S.share B).up S.ex (Nat.le_refl _))
  exact k.nx _ _ _ ⟨F, (S.step B e1 p1).setVa (r1.scal hs)⟩ q
/-- what is owned becomes data for good -/
theorem db_share (h : DB X W c sts (shG Γ) O xp) : DB X W c sts Γ O xp := fun u M H0 n H σ D B S hn k => by
  obtain ⟨F, S⟩ := S
  exact h u M H0 n H σ D B ⟨_, S.share B⟩ hn k
theorem ds_share (h : DSt X W c st (shG Γ) O xp) : DSt X W c st Γ O xp := fun u M H0 n H σ D B S hn k => by
  obtain ⟨F, S⟩ := S
  exact h u M H0 n H σ D B ⟨_, S.share B⟩ hn k
/-- if t: a else: b -/
theorem ds_if {t : Expr} {as bs : List Stmt} (h : DT X W c1 t (shG Γ) (fun k => (k = true → DB X W c2 as Γ O xp) ∧ (k = false → DB X W c3 bs Γ O xp)) xp) : DSt X W (c1 + max c2 c3) (.If t as bs pos) Γ O xp := fun u M H0 n H σ D B S hn k => by
  obtain ⟨F, S⟩ := S
  refine tws_of (ps_if (twt_pt X t) (twss_pss X as) (twss_pss X bs)) ?_
  refine h _ n H σ _ S.at_.share (by omega) (fun b H1 e1 p1 ⟨q1, q2⟩ => ?_) (k.kx (F := F) B _ rfl rfl (S.share B).up S.ex (by omega))
  have S1 : StOk u M H0 (n + c1) H1 σ Γ := ⟨F, S.step B e1 p1⟩
  cases b with
  | true => exact q1 rfl u M H0 (n + c1) H1 σ D B S1 (by omega) (k.le (by omega))
  | false => exact q2 rfl u M H0 (n + c1) H1 σ D B S1 (by omega) (k.le (by omega))
/-- .. where the answer is known to be false: the suite is not looked at -/
theorem ds_ifF {t : Expr} {as bs : List Stmt} (h : DT X W c1 t (shG Γ) (fun k => k = false ∧ DB X W c3 bs Γ O xp) xp) : DSt X W (c1 + c3) (.If t as bs pos) Γ O xp := fun u M H0 n H σ D B S hn k => by
  obtain ⟨F, S⟩ := S
  refine tws_of (ps_if (twt_pt X t) (pss_never (sts := as)) (twss_pss X bs)) ?_
  refine h _ n H σ _ S.at_.share (by omega) (fun b H1 e1 p1 ⟨q1, q2⟩ => ?_) (k.kx (F := F) B _ rfl rfl (S.share B).up S.ex (by omega))
  have S1 : StOk u M H0 (n + c1) H1 σ Γ := ⟨F, S.step B e1 p1⟩
  subst q1
  exact q2 u M H0 (n + c1) H1 σ D B S1 (by omega) (k.le (by omega))
theorem ds_ret (h : DE X W c e (shG Γ) O.rt xp) : DSt X W c (.Return (some e) pos) Γ O xp := fun u M H0 n H σ D B S hn k => by
  obtain ⟨F, S⟩ := S
  refine tws_of (ps_ret (tw_pe X e)) ?_
  refine h _ n H σ _ S.at_.share hn (fun v d H1 e1 p1 r1 q1 => ?_) (k.kx (F := F) B _ rfl rfl (S.share B).up S.ex (Nat.le_refl _))
  exact k.rt v d H1 (S.ex.exp B.mp e1 p1.there) p1 (r1.less rfl (S.share B).up) q1
theorem ds_retN (q : O.rt .non) : DSt X W 0 (.Return none pos) Γ O xp := fun u M H0 n H σ D B S hn k => by
  obtain ⟨F, S⟩ := S
  exact tws_of ps_retN (k.rt .non .non H S.ex S.at_.pen rfl q)
theorem ds_expr (h : DE X W c e (shG Γ) (fun _ => O.nx Γ) xp) (hs : swapsWith e none pos.line X.env = pure false := by rfl) : DSt X W c (.Expr e pos) Γ O xp := fun u M H0 n H σ D B S hn k => by
  obtain ⟨F, S⟩ := S
  refine tws_of (ps_expr (tw_pe X e) hs) ?_
  refine h _ n H σ _ S.at_.share hn (fun v d H1 e1 p1 r1 q1 => ?_) (k.kx (F := F) B _ rfl rfl (S.share B).up S.ex (Nat.le_refl _))
  exact k.nx _ _ _ ⟨F, S.step B e1 p1⟩ q1
/-- a, b = x, y -/
theorem ds_par (i j : Nat) {x y : Str} {px py pt : Pos} {kt k2 pt2} (hN : X.N.Nodup) (hij : i ≠ j) (h : DA X W c [a, b] Γ (fun ds => ∃ d1 d2, ds = [d1, d2] ∧ O.nx ((Γ.set i (.va d1)).set j (.va d2))) xp) (hc : X.calm = true := by rfl) (hi : X.N[i]? = some x := by rfl) (hj : X.N[j]? = some y := by rfl)
    (hx : X.env.scope.names.lookup x = some .local := by rfl) (hy : X.env.scope.names.lookup y = some .local := by rfl)
    (hw : swappedStores [.Tuple [.Name x px, .Name y py] kt pt] (.Tuple [a, b] k2 pt2) X.env = pure (some [x, y]) := by rfl)
    (hs : swapsWithSole [.Tuple [.Name x px, .Name y py] kt pt] (.Tuple [a, b] k2 pt2) pos.line X.env = pure false := by rfl) :
    DSt X W c (.Assign [.Tuple [.Name x px, .Name y py] kt pt] (.Tuple [a, b] k2 pt2) pos) Γ O xp := fun u M H0 n H σ D B S hn k => by
  obtain ⟨F, S⟩ := S
  refine tws_of (ps_par hc hN hi hj hij hx hy (twa_pa X [a, b]) hw hs) ?_
  refine h ⟨F, u.p, u.cl⟩ n H σ _ S.at_ hn (fun vs ds H1 e1 p1 r1 ⟨d1, d2, ed, q⟩ => ?_) (k.kx (F := F) B _ rfl rfl S.up S.ex (Nat.le_refl _))
  subst ed
  obtain ⟨v1, v2, ev, r1, r2⟩ := r1.two
  exact ⟨v1, v2, ev, k.nx _ _ _ ⟨F, ((S.step B e1 p1).setVa r1).setVa r2⟩ q⟩
end
end Dx
-- DxI
namespace Dx
open PySem PySem.Spec PyProof.Rows L2
section
variable {u : U} {M : Addr → Prop} {H0 H H' H1 : Hp} {F F' : Addr → Prop} {n m : Nat} {σ : L2.St} {Γ : Gm} {a : Addr}
/-! ### a loop's own base -/
def Mb (u : U) (F : Addr → Prop) (a : Addr) : Prop := a = u.p ∨ (F a ∧ ¬ u.F a)
theorem Bs.sub (B : Bs u M H0) (S : S5 u M H0 F n H σ Γ) : Bs u (Mb u F) H := ⟨B.pF, B.cF, fun b f => S.at_.dom b (S.up b f), .inl rfl, fun b h f => h.elim id fun z => absurd f z.2⟩
theorem S5.sub (S : S5 u M H0 F n H σ Γ) (B : Bs u M H0) : S5 u (Mb u F) H F n H σ Γ := by
  refine ⟨S.up, fun b f => ?_, S.at_, fun i s b g o e => .inl (.inr ⟨(S.at_.ownNe g o e).1, fun f => S.noOwn B f i s g o e⟩), ExM.refl⟩
  by_cases h : u.F b
  · exact .inl h
  · exact .inr (.inl (.inr ⟨f, h⟩))
theorem mb_of (S : S5 u M H0 F n H σ Γ) (B : Bs u M H0) {b : Addr} (h : Mb u F b) : M b ∨ H0 b = none := by
  rcases h with h | ⟨h1, h2⟩
  · rw [h]; exact .inl B.mp
  · rcases S.new b h1 with z | z | z
    · exact absurd z h2
    · exact .inl z
    · exact .inr z
theorem ExM.back (S : S5 u M H0 F n H1 σ Γ) (B : Bs u M H0) (e : ExM (Mb u F) H1 H) : ExM M H0 H := by
  refine ⟨fun b o nm g => ?_, fun b o g => ?_⟩
  · refine e.1 b o (fun z => ?_) (S.ex.1 b o nm g)
    rcases mb_of S B z with z | z
    · exact nm z
    · rw [z] at g; cases g
  · obtain ⟨o', g'⟩ := S.ex.2 b o g
    exact e.2 b o' g'
theorem S5.back {Γ' : Gm} {σ' : L2.St} (S : S5 u M H0 F n H1 σ Γ) (B : Bs u M H0) (T : S5 u (Mb u F) H1 F' m H σ' Γ') : S5 u M H0 F' m H σ' Γ' := by
  have none_of : ∀ b, H1 b = none → H0 b = none := fun b z => by
    cases g : H0 b with
    | none => rfl
    | some o =>
      obtain ⟨o', g'⟩ := S.ex.2 b o g
      rw [z] at g'; cases g'
  refine ⟨T.up, fun b f => ?_, T.at_, fun i s b g o e => ?_, T.ex.back S B⟩
  · rcases T.new b f with z | z | z
    · exact .inl z
    · exact .inr (mb_of S B z)
    · exact .inr (.inr (none_of b z))
  · rcases T.own i s b g o e with z | z
    · exact mb_of S B z
    · exact .inr (none_of b z)
end
section
variable {X : Cx} {W : WX} {c c1 c2 c3 : Nat} {Γ : Gm} {O : Out} {xp : XP} {a b e : Expr} {pos : Pos} {st : Stmt} {sts : List Stmt}
/-- for x in iter: body -/
theorem ds_for {iter : Expr} {body : List Stmt} {x : Str} (j : Nat) {tp : Pos} (m : Nat) (hp : PassesOwn (model X.prog X.w) X.A X.env X.xe) (hg : PG X (.Name x tp) (gName j))
    (h : DI X W c1 (.Name x tp) iter Γ (fun ds => ds.length ≤ m ∧ ∃ I : Nat → Gm → Prop, I 0 Γ ∧ (∀ Γ', I ds.length Γ' → O.nx Γ') ∧
      ∀ (i : Nat) (d : D) (Γ' : Gm), ds[i]? = some d → I i Γ' → DB X W c2 body (Γ'.set j (.va d)) { nx := I (i + 1), ct := I (i + 1), bk := O.nx, rt := O.rt } xp) xp)
    (hc : X.calm = true := by rfl) (hs : ∀ x, foldedSetIterable iter X.env x = pure x := by intro _; rfl) : DSt X W (c1 + m * c2) (.For (.Name x tp) iter body [] pos) Γ O xp := fun u M H0 n H σ D B S hn k => by
  obtain ⟨F, S⟩ := S
  refine tws_of (ps_for hp hc (twi_pi X _ iter) hg (twss_pss X body) hs) ?_
  refine h ⟨F, u.p, u.cl⟩ n H σ _ S.at_ (by omega) (fun J ds H1 e1 p1 wk ⟨hm, I, h0, hd, hst⟩ => ?_) (k.kx (F := F) B _ rfl rfl S.up S.ex (by omega))
  have S1 := S.step B e1 p1
  have B1 := B.sub S1
  obtain ⟨G, Y, wl, hG, hY⟩ := wk.ex
  have hmul : ∀ i, i ≤ ds.length → i * c2 ≤ m * c2 := fun i hi => Nat.mul_le_mul_right _ (Nat.le_trans hi hm)
  have hkp : ∀ Hc, ExM (Mb u F) H1 Hc → Kp F H1 Hc := fun Hc ee b o f g => ee.1 b o (fun z => by
    rcases z with z | z
    · exact f (by rw [z]; exact S1.up _ B.pF)
    · exact f z.1) g
  refine for_it wl (fun i σ' Hc => ∃ Γ', StOk u (Mb u F) H1 (n + c1 + i * c2) Hc σ' Γ' ∧ I i Γ') ⟨Γ, by simpa using (show StOk u (Mb u F) H1 (n + c1) H1 σ Γ from ⟨F, S1.sub B⟩), h0⟩ (fun i σ' Hc _ ⟨Γ', ⟨F', T⟩, _⟩ => hG Hc (hkp Hc T.ex)) (fun i v σ' Hc Hc' hi ⟨Γ', ⟨F', T⟩, hI⟩ hy => ?_) (fun σ' Hc ⟨Γ', ⟨F', T⟩, hI⟩ => ?_)
  · have hb := hmul (i + 1) hi
    have hs1 : (i + 1) * c2 = i * c2 + c2 := by rw [Nat.succ_mul]
    have hF' : ∀ b o, ¬ F b → H1 b = some o → ¬ F' b := fun b o f g z => by
      rcases T.new b z with q | q | q
      · exact f (S1.up b q)
      · rcases q with q | q
        · exact f (by rw [q]; exact S1.up _ B.pF)
        · exact f q.1
      · rw [q] at g; cases g
    obtain ⟨kp, d, hd', rd⟩ := hY ⟨F', u.p, u.cl⟩ i Hc v Hc' rfl hF' T.at_.dom (hkp Hc T.ex) hi hy
    have T1 := (T.step B1 (exp_keep kp) (T.at_.pen.keep kp)).setVa (j := j) rd
    refine hst i d Γ' hd' hI u (Mb u F) H1 (n + c1 + i * c2) Hc' (σ'.set j (some v)) _ B1 ⟨F', T1⟩ (by omega) ⟨fun Γ2 σ2 H2 s2 q2 => ⟨Γ2, by rw [hs1, ← Nat.add_assoc]; exact s2, q2⟩, fun v2 d2 H2 ee p2 r2 q2 => ?_, fun Γ2 σ2 H2 ⟨F2, s2⟩ q2 => ?_, fun Γ2 σ2 H2 s2 q2 => ⟨Γ2, by rw [hs1, ← Nat.add_assoc]; exact s2, q2⟩, fun cls od C fs σ2 H2 ee p2 r2 q2 => ?_⟩
    · exact k.rt v2 d2 H2 (ee.back S1 B) (p2.up (by omega)) r2 q2
    · exact k.nx Γ2 σ2 H2 (StOk.up ⟨F2, S1.back B s2⟩ (by omega)) q2
    · exact k.xx cls od C fs σ2 H2 (ee.back S1 B) (p2.up (by omega)) r2 q2
  · have hb := hmul ds.length (Nat.le_refl _)
    exact k.nx Γ' σ' Hc (StOk.up ⟨F', S1.back B T⟩ (by omega)) (hd Γ' hI)
/-- while t: body -/
theorem ds_while {t : Expr} {body : List Stmt} (m0 : Nat) (I : Nat → Gm → Prop) (hp : PassesOwn (model X.prog X.w) X.A X.env X.xe) (h0 : I m0 Γ)
    (h : ∀ (m : Nat) (Γ' : Gm), m ≤ m0 → I m Γ' → DT X W c1 t (shG Γ') (fun k => (k = true → DB X W c2 body Γ' { nx := fun Γ2 => ∃ m', m' < m ∧ I m' Γ2, ct := fun Γ2 => ∃ m', m' < m ∧ I m' Γ2, bk := O.nx, rt := O.rt } xp) ∧ (k = false → O.nx Γ')) xp) :
    DSt X W ((m0 + 1) * (c1 + c2)) (.While t body [] pos) Γ O xp := fun u M H0 n H σ D B S hn k => by
  refine tws_of (ps_while hp (twt_pt X t) (twss_pss X body)) ?_
  refine ⟨fun m σ' Hc => m ≤ m0 ∧ ∃ Γ', StOk u M H0 (n + (m0 - m) * (c1 + c2)) Hc σ' Γ' ∧ I m Γ', ⟨m0, Nat.le_refl _, Γ, by simpa using S, h0⟩, fun m σ' Hc ⟨hm, Γ', ⟨F, T⟩, hI⟩ => ?_⟩
  have hmul : (m0 - m) * (c1 + c2) + (c1 + c2) ≤ (m0 + 1) * (c1 + c2) := by
    rw [← Nat.succ_mul]; exact Nat.mul_le_mul_right _ (by omega)
  refine h m Γ' hm hI _ _ Hc σ' _ T.at_.share (by omega) (fun bb H1 e1 p1 ⟨q1, q2⟩ => ?_) (k.kx (F := F) B _ rfl rfl (T.share B).up T.ex (by omega))
  have T1 : StOk u M H0 (n + (m0 - m) * (c1 + c2) + c1) H1 σ' Γ' := ⟨F, T.step B e1 p1⟩
  have fin : ∀ m', m' < m → (m0 - m) * (c1 + c2) + (c1 + c2) ≤ (m0 - m') * (c1 + c2) := fun m' h' => by
    rw [← Nat.succ_mul]; exact Nat.mul_le_mul_right _ (by omega)
  cases bb with
  | true =>
    show ∃ N : L2.St → Hp → Prop, _
    refine ⟨fun σ2 H2 => ∃ m', m' < m ∧ (m' ≤ m0 ∧ ∃ Γ2, StOk u M H0 (n + (m0 - m') * (c1 + c2)) H2 σ2 Γ2 ∧ I m' Γ2), fun σ2 H2 z => z, ?_⟩
    refine q1 rfl u M H0 _ H1 σ' _ B T1 (by omega) ⟨fun Γ2 σ2 H2 s2 ⟨m', l, q⟩ => ⟨m', l, by omega, Γ2, s2.up (by have := fin m' l; omega), q⟩, fun v2 d2 H2 ee p2 r2 q2 => k.rt v2 d2 H2 ee (p2.up (by omega)) r2 q2, fun Γ2 σ2 H2 s2 q2 => k.nx Γ2 σ2 H2 (s2.up (by omega)) q2,
      fun Γ2 σ2 H2 s2 ⟨m', l, q⟩ => ⟨m', l, by omega, Γ2, s2.up (by have := fin m' l; omega), q⟩, fun cls od C fs σ2 H2 ee p2 r2 q2 => k.xx cls od C fs σ2 H2 ee (p2.up (by omega)) r2 q2⟩
  | false => exact k.nx Γ' σ' H1 (T1.up (by omega)) (q2 rfl)
/-! ### lists that are made here -/
theorem S5.newOwn {u : U} {M : Addr → Prop} {H0 H : Hp} {F : Addr → Prop} {n : Nat} {σ : L2.St} {Γ : Gm} {p : Addr} {i : Nat} {vs : List V} {ds : List D} (S : S5 u M H0 F n H σ Γ) (B : Bs u M H0) (r : RepL ⟨F, u.p, u.cl⟩ H ds vs) (hp : H p = none) :
    S5 u M H0 (fun b => F b ∨ b = p) n (upd H p (.lst vs)) (σ.set i (some (.ref p))) (Γ.set i (.li ds)) := by
  have h0 : H0 p = none := by
    cases g : H0 p with
    | none => rfl
    | some o =>
      obtain ⟨o', g'⟩ := S.ex.2 p o g
      rw [hp] at g'; cases g'
  have np : p ≠ u.p := fun z => by
    obtain ⟨o, ho⟩ := S.at_.dom _ S.at_.pF
    rw [show (⟨F, u.p, u.cl⟩ : U).p = u.p from rfl, ← z, hp] at ho; cases ho
  refine ⟨fun b f => .inl (S.up b f), fun b f => ?_, ?_, fun j s b g o e => ?_, ?_⟩
  · rcases f with f | f
    · exact S.new b f
    · rw [f]; exact .inr (.inr h0)
  · refine At.setOwn (u := ⟨fun b => F b ∨ b = p, u.p, u.cl⟩) (S.at_.more (.lst vs) hp) ⟨p, vs, rfl, .inr rfl, np, upd_same, RepL.mono (u := ⟨F, u.p, u.cl⟩) (u' := ⟨fun b => F b ∨ b = p, u.p, u.cl⟩) (more_kp hp) rfl (more_nF (u := ⟨F, u.p, u.cl⟩) hp) _ _ r⟩ (fun j s _ g o => S.at_.noOwn hp j s g o)
  · rcases set_get g with ⟨h1, h2⟩ | ⟨h1, h2⟩
    · subst h1
      by_cases hl : j < σ.length
      · rw [List.getElem?_set_self hl] at e; cases e; exact .inr h0
      · rw [List.getElem?_eq_none (by simpa using hl)] at e; cases e
    · rw [List.getElem?_set_ne (Ne.symm h1)] at e
      exact S.own j s b h2 o e
  · exact ⟨fun b o nm g => by rw [upd_ne (ne_of_none (S.ex.1 b o nm g) hp)]; exact S.ex.1 b o nm g, fun b o g => by
      obtain ⟨o', g'⟩ := S.ex.2 b o g
      exact ⟨o', by rw [upd_ne (ne_of_none g' hp)]; exact g'⟩⟩
/-- x = [e, ..], to be changed -/
theorem ds_acc (i : Nat) {x : Str} {p' lp : Pos} {es : List Expr} (hN : X.N.Nodup) (h : DA X W c es Γ (fun ds => ds.length ≤ sizeLine ∧ O.nx (Γ.set i (.li ds))) xp) (hi : X.N[i]? = some x := by rfl) (hx : L2.Loc X.env.scope x := by first | exact Or.inl rfl | exact Or.inr rfl) (hs : swapsWith (.List es lp) (some (.Name x p')) pos.line X.env = pure false := by rfl)
    (hf : X.fn x = true ∨ X.env.scope.names.lookup x = some .local := by first | exact Or.inl rfl | exact Or.inr rfl) : DSt X W c (.Assign [.Name x p'] (.List es lp) pos) Γ O xp := fun u M H0 n H σ D B S hn k => by
  obtain ⟨F, S⟩ := S
  refine tws_of (ps_set hN hi hx (pe_lst (twa_pa X es)) hs hf) ?_
  refine h ⟨F, u.p, u.cl⟩ n H σ _ S.at_ hn (fun vs ds H1 e1 p1 r1 ⟨hz, q⟩ => ⟨by rw [r1.length]; exact hz, fun p hp => ?_⟩) (k.kx (F := F) B _ rfl rfl S.up S.ex (Nat.le_refl _))
  exact k.nx _ _ _ ⟨_, (S.step B e1 p1).newOwn B r1 hp⟩ q
/-- x = list(e), to be changed -/
theorem ds_accL (i : Nat) {x : Str} {p' q' lp : Pos} (hN : X.N.Nodup) (hm : X.mg "list" = none) (h : DE X W c e Γ (fun d => ∃ ds, (d = .lst ds ∨ d = .tup ds) ∧ O.nx (Γ.set i (.li ds))) xp) (hg : Gl X "list" := by rfl) (hi : X.N[i]? = some x := by rfl) (hx : L2.Loc X.env.scope x := by first | exact Or.inl rfl | exact Or.inr rfl)
    (hs : swapsWith (.Call (.Name "list" q') [e] [] lp) (some (.Name x p')) pos.line X.env = pure false := by rfl) (hv : bootBuiltins "list" = some (.type "list") := by decide +kernel)
    (hf : X.fn x = true ∨ X.env.scope.names.lookup x = some .local := by first | exact Or.inl rfl | exact Or.inr rfl) (he : starEach [e] X.env = (false, eval e X.env) :: starEach [] X.env := by rfl) : DSt X W c (.Assign [.Name x p'] (.Call (.Name "list" q') [e] [] lp) pos) Γ O xp := fun u M H0 n H σ D B S hn k => by
  obtain ⟨F, S⟩ := S
  refine tws_of (ps_set hN hi hx (pe_callTy call_list_of hg hm hv (pa_cons (tw_pe X e) pa_nil he) (by decide) (by decide) he (by rfl)) hs hf) ?_
  refine h ⟨F, u.p, u.cl⟩ n H σ _ S.at_ hn (fun v d H1 e1 p1 r1 ⟨ds, hd, q⟩ => ?_) (k.kx (F := F) B _ rfl rfl S.up S.ex (Nat.le_refl _))
  rcases hd with rfl | rfl
  · obtain ⟨a, vs, ev, f, g, rl⟩ := r1.lstE
    exact ⟨a, vs, by rw [ev], .inl (SqL.of g), fun p hp => k.nx _ _ _ ⟨_, (S.step B e1 p1).newOwn B rl hp⟩ q⟩
  · obtain ⟨a, vs, ev, f, g, rl⟩ := r1.tupE
    exact ⟨a, vs, by rw [ev], .inr (SqT.of g), fun p hp => k.nx _ _ _ ⟨_, (S.step B e1 p1).newOwn B rl hp⟩ q⟩
/-- a list of this body is written -/
theorem S5.writeLi {u : U} {M : Addr → Prop} {H0 H : Hp} {F : Addr → Prop} {n : Nat} {σ : L2.St} {Γ : Gm} {l : Addr} {i : Nat} {ds : List D} {ws : List V} {es : List D} (S : S5 u M H0 F n H σ Γ) (B : Bs u M H0) (g : Γ[i]? = some (.li ds)) (el : σ[i]? = some (some (.ref l))) (r : RepL ⟨F, u.p, u.cl⟩ H es ws) :
    S5 u M H0 F n (upd H l (.lst ws)) σ (Γ.set i (.li es)) := by
  obtain ⟨fl, np, q0, hq0⟩ := S.at_.ownNe g trivial el
  have kp : Kp F H (upd H l (.lst ws)) := updF_kp (u := ⟨F, u.p, u.cl⟩) fl
  have hi : i < Γ.length := (List.getElem?_eq_some_iff.mp g).1
  refine ⟨S.up, S.new, ⟨S.at_.toAl.updF _ fl np, by simp [S.at_.len], fun j s g' => ?_, fun j k sj sk b hjk g1 g2 o1 o2 e1 e2 => ?_⟩, fun j s b g' o e => ?_, ?_⟩
  · rcases set_get g' with ⟨h1, h2⟩ | ⟨h1, h2⟩
    · subst h1; subst h2
      exact ⟨l, ws, el, fl, np, upd_same, RepL.mono (u := ⟨F, u.p, u.cl⟩) kp rfl (fun _ _ f _ => f) _ _ r⟩
    · exact (S.at_.sl j s h2).updF fl (fun o z => S.at_.sep j i s _ l h1 h2 g o trivial z el)
  · have own_of : ∀ {j : Nat} {s : Sl}, (Γ.set i (.li es))[j]? = some s → s.own → ∃ s', Γ[j]? = some s' ∧ s'.own := fun {j s} g' o => by
      rcases set_get g' with ⟨h1, h2⟩ | ⟨h1, h2⟩
      · subst h1; exact ⟨_, g, trivial⟩
      · exact ⟨s, h2, o⟩
    obtain ⟨s1, a1, b1⟩ := own_of g1 o1
    obtain ⟨s2, a2, b2⟩ := own_of g2 o2
    exact S.at_.sep j k s1 s2 b hjk a1 a2 b1 b2 e1 e2
  · rcases set_get g' with ⟨h1, h2⟩ | ⟨h1, h2⟩
    · subst h1; exact S.own j _ b g trivial e
    · exact S.own j s b h2 o e
  · have hl : M l ∨ H0 l = none := S.own i _ l g trivial el
    refine ⟨fun b o nm hg => ?_, fun b o hg => ?_⟩
    · have hb : b ≠ l := fun z => by
        subst z
        rcases hl with hl | hl
        · exact nm hl
        · rw [hl] at hg; cases hg
      rw [upd_ne hb]; exact S.ex.1 b o nm hg
    · by_cases hb : b = l
      · exact ⟨_, by rw [hb]; exact upd_same⟩
      · obtain ⟨o', g'⟩ := S.ex.2 b o hg
        exact ⟨o', by rw [upd_ne hb]; exact g'⟩
theorem li_at {u : U} {H : Hp} {F : Addr → Prop} {n : Nat} {σ : L2.St} {Γ : Gm} {i : Nat} {ds : List D} (A : At ⟨F, u.p, u.cl⟩ n H σ Γ) (g : Γ[i]? = some (.li ds)) : ∃ l vs, σ[i]? = some (some (.ref l)) ∧ F l ∧ l ≠ u.p ∧ H l = some (.lst vs) ∧ RepL ⟨F, u.p, u.cl⟩ H ds vs := A.sl i _ g
/-- x.append(e); e reads no owned list -/
theorem ds_app (i : Nat) {x : Str} {p1 p2 p3 p4 : Pos} {ds : List D} (g : Γ[i]? = some (.li ds)) (h : DE X W c e Γ (fun d => ds.length < sizeLine ∧ O.nx (Γ.set i (.li (ds ++ [d])))) xp) (hi : X.N[i]? = some x := by rfl) (hv : Vis X.env.scope x := by first | exact Or.inl rfl | exact Or.inr (Or.inl rfl) | exact Or.inr (Or.inr rfl))
    (hd : (x == ("__debug__" : Str)) = false := by decide) (hcd : (x == ("__classdict__" : Str)) = false := by decide) (hbase : attributeBase (.Name x p1) "append" X.env (eval (.Name x p1) X.env) = eval (.Name x p1) X.env := by rfl)
    (hfew : ((backTo p3 (starEach [e] X.env)).all (fun x => !x.1) && (backToKw p3 (keywordEach [] X.env)).all (fun x => x.1.isSome) && decide ([e].length + ([] : List Keyword).length + (if ([] : List Keyword).isEmpty then 0 else 1) < 30)) = true := by rfl)
    (hline : (p2.endLine == p3.line) = true := by rfl) (hst : starEach [e] X.env = (false, eval e X.env) :: starEach [] X.env := by rfl) (hs : swapsWith (.Call (.Attribute (.Name x p1) "append" p2) [e] [] p3) none p4.line X.env = pure false := by rfl) :
    DSt X W c (.Expr (.Call (.Attribute (.Name x p1) "append" p2) [e] [] p3) p4) Γ O xp := fun u M H0 n H σ D B S hn k => by
  obtain ⟨F, S⟩ := S
  refine tws_of (ps_expr (pe_bm PySem.F.plainAttrs_list PySem.F.slot_list_append PySem.F.type_list_append mt_append (pe_var hi hv hd hcd) (pa_cons (tw_pe X e) pa_nil hst) hbase hfew hline hst (by rfl)) hs) ?_
  obtain ⟨l, vs, el, fl, np, hl, rl⟩ := li_at (u := u) S.at_ g
  refine ⟨.ref l, el, .inl ⟨rfl, vs, SqL.of hl⟩, ?_⟩
  refine h ⟨F, u.p, u.cl⟩ n H σ _ S.at_ hn (fun v d H1 e1 p1 r1 ⟨hz, q⟩ => ?_) (k.kx (F := F) B _ rfl rfl S.up S.ex (Nat.le_refl _))
  have S1 := S.step B e1 p1
  have hl1 : H1 l = some (.lst vs) := e1 l _ np hl
  have rl1 : RepL ⟨F, u.p, u.cl⟩ H1 ds vs := rl.go S.at_.toAl e1
  exact ⟨l, vs, v, rfl, rfl, hl1, by rw [rl.length]; exact hz, k.nx _ _ _ ⟨F, S1.writeLi B g el (RepL.append rl1 (RepL.cons r1 RepL.nil))⟩ q⟩
/-- .. e reads what is owned, and is a scalar -/
theorem ds_appS (i : Nat) {x : Str} {p1 p2 p3 p4 : Pos} {ds : List D} (g : Γ[i]? = some (.li ds)) (h : DE X W c e (shG Γ) (fun d => Scal d ∧ ds.length < sizeLine ∧ O.nx (Γ.set i (.li (ds ++ [d])))) xp) (hi : X.N[i]? = some x := by rfl) (hv : Vis X.env.scope x := by first | exact Or.inl rfl | exact Or.inr (Or.inl rfl) | exact Or.inr (Or.inr rfl))
    (hd : (x == ("__debug__" : Str)) = false := by decide) (hcd : (x == ("__classdict__" : Str)) = false := by decide) (hbase : attributeBase (.Name x p1) "append" X.env (eval (.Name x p1) X.env) = eval (.Name x p1) X.env := by rfl)
    (hfew : ((backTo p3 (starEach [e] X.env)).all (fun x => !x.1) && (backToKw p3 (keywordEach [] X.env)).all (fun x => x.1.isSome) && decide ([e].length + ([] : List Keyword).length + (if ([] : List Keyword).isEmpty then 0 else 1) < 30)) = true := by rfl)
    (hline : (p2.endLine == p3.line) = true := by rfl) (hst : starEach [e] X.env = (false, eval e X.env) :: starEach [] X.env := by rfl) (hs : swapsWith (.Call (.Attribute (.Name x p1) "append" p2) [e] [] p3) none p4.line X.env = pure false := by rfl) :
    DSt X W c (.Expr (.Call (.Attribute (.Name x p1) "append" p2) [e] [] p3) p4) Γ O xp := fun u M H0 n H σ D B S hn k => by
  obtain ⟨F, S⟩ := S
  refine tws_of (ps_expr (pe_bm PySem.F.plainAttrs_list PySem.F.slot_list_append PySem.F.type_list_append mt_append (pe_var hi hv hd hcd) (pa_cons (tw_pe X e) pa_nil hst) hbase hfew hline hst (by rfl)) hs) ?_
  obtain ⟨l, vs, el, fl, np, hl, rl⟩ := li_at (u := u) S.at_ g
  refine ⟨.ref l, el, .inl ⟨rfl, vs, SqL.of hl⟩, ?_⟩
  refine h _ n H σ _ S.at_.share hn (fun v d H1 e1 p1 r1 ⟨hsc, hz, q⟩ => ?_) (k.kx (F := F) B _ rfl rfl (S.share B).up S.ex (Nat.le_refl _))
  have S1 := S.step B e1 p1
  have hl1 : H1 l = some (.lst vs) := e1 l _ np hl
  have rl1 : RepL ⟨F, u.p, u.cl⟩ H1 ds vs := rl.go S.at_.toAl e1
  exact ⟨l, vs, v, rfl, rfl, hl1, by rw [rl.length]; exact hz, k.nx _ _ _ ⟨F, S1.writeLi B g el (RepL.append rl1 (RepL.cons (r1.scal hsc) RepL.nil))⟩ q⟩
end
end Dx
-- DxJ
namespace Dx
open PySem PySem.Spec PyProof.Rows L2
/-! ### a def's promise, where no display of a value is under way -/
structure RoomG (k : Nat) (A : Around) : Prop where
  room : Room k A
  gd : A.guards = some []
theorem RoomG.mono {j k : Nat} {A : Around} (r : RoomG k A) (h : j ≤ k) : RoomG j A := ⟨r.room.mono h, r.gd⟩
theorem RoomG.make {k : Nat} {A : Around} (r : RoomG (k + 1) A) (C : Addr) (us : List Value) (kw : List (Str × Value)) : RoomG k (A.under (.builtin "type.__call__" ⟨.ref C :: us, kw⟩)) := by
  refine ⟨r.room.make C us kw, ?_⟩
  unfold Around.under
  rw [r.gd]; rfl
structure FnG (P : Program) (w : World) (K : PySem.W.Frag) (mg : Str → Option Value) (base : Heap) (CX : CXT) (k : Nat) (f : Addr) (fd : FuncData) (ps : List Str) (sp : Sp) : Prop where
  len : ∀ vs H Q E, sp vs H Q E → vs.length = ps.length
  go : ∀ (A : Around) (outer : List Env) (s : Shared) (H : Hp) (args : Args) (us : List Value) (vs : List V) (Q : VK) (E : XK), RoomG k A → Env0 P w K mg base A outer s H → BindsTo s fd args (ps.zip us) → Vals vs us → sp vs H Q E →
    codeAny (model P w) A (.call (.ref f) args) (CR CX outer P w H s Q E) s
theorem FnG.mono {P : Program} {w : World} {K : PySem.W.Frag} {mg : Str → Option Value} {base : Heap} {CX : CXT} {j k : Nat} {f : Addr} {fd : FuncData} {ps : List Str} {sp : Sp} (F : FnG P w K mg base CX j f fd ps sp) (h : j ≤ k) : FnG P w K mg base CX k f fd ps sp :=
  ⟨F.len, fun A outer s H args us vs Q E hr => F.go A outer s H args us vs Q E (hr.mono h)⟩
/-- from a def's text and its body's walk -/
theorem fnG_of {P : Program} {w : World} {K : PySem.W.Frag} {mg : Str → Option Value} {base : Heap} {x qual : Str} {st : Stmt} {f : Addr} {fd : FuncData} {N ps : List Str} {k : Nat} {sp : Sp} (F : Fun K x qual st f fd) (S : FnScope N ps (defScope st)) (len : ∀ vs H Q E, sp vs H Q E → vs.length = ps.length)
    (hbody : ∀ (cdv : Value) (A : Around) (outer : List Env) (s : Shared) (H : Hp) (vs : List V) (Q : VK) (E : XK), RoomG k (A.deeper (envOfC qual (defScope st) s.heap.objs.size f cdv)) → sp vs H Q E →
      ∃ t, PSs (cxOf CX0 P w K mg base N qual (defScope st) f cdv A outer s H E).nox (defBody st) t ∧ t { nx := fun _ H' => Q .non H', rt := Q } (L2.start N vs) H) : FnG P w K mg base CX0 (k + 1) f fd ps sp := by
  obtain ⟨oc, od, kV, doc, pm, an, cdv, ct, osl, rfl, lk, hcd⟩ := F.ex
  refine ⟨len, fun A outer s H args us vs Q E hr e0 hb r hsp => LamX.run_ofS lk hcd S hr.room e0 hb r (len _ _ _ _ hsp) fun hr' => ?_⟩
  obtain ⟨t, h, q⟩ := hbody cdv A outer s H vs Q E ⟨hr', hr.gd⟩ hsp
  exact ⟨t, h.nox, q⟩
section
variable {X : Cx} {CX : CXT} {k : Nat} {f C : Addr} {fd : FuncData} {ps : List Str} {sp : Sp} {pins : List (Addr × Obj)} {σ : L2.St} {H : Hp} {s : Shared} {Q : VK} {E : XK}
/-- the callee's way back -/
theorem back_g {r : Result} {s' : Shared} (hx : ∀ e, CX X.stack H s E e s' → X.xe e s') (I : Inv X pins σ H s) (hq : CR CX X.stack X.prog X.w H s Q E r s') : (match r with | .ok (.ret u) => EP X pins σ Q u s' | .ok _ => False | .error e => X.xe e s') := by
  cases r with
  | error e => exact hx e hq
  | ok fl => cases fl with
    | ret u => exact I.after hq
    | next => exact hq.elim
    | brk => exact hq.elim
    | cont => exact hq.elim
/-- a def run on bound values -/
theorem run_g {us us' : List Value} {kw : List (Str × Value)} {vs : List V} (F : FnG X.prog X.w X.K X.mg X.base CX k f fd ps sp) (hr : RoomG k X.A) (hx : ∀ e s', CX X.stack H s E e s' → X.xe e s') (I : Inv X pins σ H s) (r : Vals vs us') (hb : BindsTo s fd ⟨us, kw⟩ (ps.zip us')) (h : sp vs H Q E) :
    wpAny (model X.prog X.w) X.A (call (.ref f) us kw) (EP X pins σ Q) X.xe s := by
  refine wpAny_call (codeAny_mono (F.go X.A X.stack s H ⟨us, kw⟩ us' vs Q E hr I.env0 hb r h) fun r' s' hq => ?_)
  have hh := back_g (fun e => hx e s') I hq
  cases r' with
  | error e => exact hh
  | ok fl => cases fl <;> first | exact hh | exact hh.elim
/-- an instance made, its __init__ run on bound values -/
theorem make_g {us us' : List Value} {kw : List (Str × Value)} {vs : List V} (M : Mk X.K C f) (F : FnG X.prog X.w X.K X.mg X.base CX k f fd ps sp) (hr : RoomG (k + 1) X.A) (I : Inv X pins σ H s)
    (hx : ∀ s2 H2 e s', Inv X pins σ H2 s2 → CX X.stack H2 s2 E e s' → X.xe e s') (r : ∀ x, Vals (.ref x :: vs) (.ref x :: us'))
    (hb : ∀ (s2 : Shared) (x : Addr), X.K.In s2.heap → BindsTo s2 fd ⟨.ref x :: us, kw⟩ (ps.zip (.ref x :: us')))
    (h : ∀ x dx, H x = none → H dx = none → dx ≠ x → sp (.ref x :: vs) (upd (upd H dx (.own x)) x (.ins C dx [])) (fun v H2 => v = .non ∧ Q (.ref x) H2) E) :
    wpAny (model X.prog X.w) X.A (call (.ref C) us kw) (EP X pins σ Q) X.xe s := by
  have hq := h (s.heap.objs.size + 1) s.heap.objs.size (I.hok.fresh (Nat.le_succ _)) (I.hok.fresh (Nat.le_refl _)) (Nat.ne_of_lt (Nat.lt_succ_self _))
  have J := Inv.made (C := C) I
  refine wpAny_call (make_map (f := f) I.kIn M.makes M.init (beq_iff_eq.mp M.fn) (codeAny_mono (F.go _ X.stack _ _ ⟨.ref (s.heap.objs.size + 1) :: us, kw⟩ (.ref (s.heap.objs.size + 1) :: us') _ _ E (hr.make C us kw) (J.env0.make C us kw) (hb _ _ J.kIn) (r _) hq) fun r' s' hq' => ?_))
  have hh := back_g (fun e => hx _ _ e s' J) J hq'
  cases r' with
  | error e => exact hh
  | ok fl => cases fl with
    | next => exact hh.elim
    | brk => exact hh.elim
    | cont => exact hh.elim
    | ret u =>
      obtain ⟨v, H', J2, rv, ev, q⟩ := hh
      subst ev
      exact ⟨rv, .ref (s.heap.objs.size + 1), H', J2, rfl, q⟩
end
/-! ### promises -/
abbrev SpD := List D → (D → Prop) → Prop
def spN (ar c : Nat) (S : SpD) : Sp := fun vs H Q _ => ∃ u n ds post, Al u n H ∧ n + c ≤ lim ∧ RepL u H ds vs ∧ ds.length = ar ∧ S ds post ∧ KN u (n + c) H post Q
/-- of an __init__ -/
abbrev SpI := List D → (List (Str × D) → Prop) → Prop
def spI (C : Addr) (ar c : Nat) (S : SpI) : Sp := fun vs H Q _ => ∃ u n x dx ds us post, vs = .ref x :: us ∧ Al u n H ∧ ¬ u.F x ∧ x ≠ u.cl ∧ n + c ≤ lim ∧ H x = some (.ins C dx []) ∧ RepL (u.more x) H ds us ∧ ds.length + 1 = ar ∧ S ds post ∧
  ∀ H' fv fs, ExM (fun a => a = u.p ∨ a = x) H H' → Pen u (n + c) H' → H' x = some (.ins C dx fv) → RepF (u.more x) H' fs fv → post fs → Q .non H'
/-- the slots at a def's start -/
def G0 (N : List Str) (ds : List D) : Gm := ds.map Sl.va ++ List.replicate (N.length - ds.length) Sl.no
abbrev CxB (P : Program) (w : World) (K : PySem.W.Frag) (mg : Str → Option Value) (base : Heap) (N : List Str) (qual : Str) (st : Stmt) (f : Addr) (cdv : Value) (A : Around) (outer : List Env) (s : Shared) (H : Hp) (E : XK) : Cx :=
  (cxOf CX0 P w K mg base N qual (defScope st) f cdv A outer s H E).nox
section
variable {P : Program} {w : World} {K : PySem.W.Frag} {mg : Str → Option Value} {base : Heap}
theorem at_start {u : U} {n : Nat} {H : Hp} {N : List Str} {ds : List D} {vs : List V} (A : Al u n H) (r : RepL u H ds vs) (hl : ds.length ≤ N.length) : At u n H (L2.start N vs) (G0 N ds) := by
  have e := r.length
  refine ⟨A, by unfold L2.start G0; simp; omega, fun i s g => ?_, fun i j si sj a hij g1 g2 o1 => ?_⟩
  · unfold G0 at g
    by_cases h : i < ds.length
    · rw [List.getElem?_append_left (by simpa using h), List.getElem?_map] at g
      cases e1 : ds[i]? with
      | none => rw [e1] at g; cases g
      | some d =>
        rw [e1] at g; cases g
        obtain ⟨v, h1, h2⟩ := r.get e1
        refine ⟨v, ?_, h2⟩
        unfold L2.start
        rw [List.getElem?_append_left (by simp; omega), List.getElem?_map, h1]; rfl
    · rw [List.getElem?_append_right (by simpa using h)] at g
      have : s = .no := by
        have := List.mem_of_getElem? g
        exact List.eq_of_mem_replicate this
      rw [this]; trivial
  · unfold G0 at g1
    have hm := List.mem_of_getElem? g1
    rcases List.mem_append.mp hm with h | h
    · obtain ⟨d, _, rfl⟩ := List.mem_map.mp h
      exact o1.elim
    · rw [List.eq_of_mem_replicate h] at o1; exact o1.elim
theorem Al.bs {u : U} {n : Nat} {H : Hp} (A : Al u n H) : Bs u (fun a => a = u.p) H := ⟨A.pF, A.cF, A.dom, rfl, fun _ h _ => h⟩
theorem At.s5 {u : U} {n : Nat} {H : Hp} {σ : L2.St} {Γ : Gm} (A : At u n H σ Γ) (hno : ∀ (i : Nat) (s : Sl), Γ[i]? = some s → ¬ s.own) : S5 u (fun a => a = u.p) H u.F n H σ Γ := ⟨fun _ h => h, fun _ h => .inl h, A, fun i s a g o => absurd o (hno i s g), ExM.refl⟩
theorem G0.no {N : List Str} {ds : List D} : ∀ (i : Nat) (s : Sl), (G0 N ds)[i]? = some s → ¬ s.own := fun i s g o => by
  unfold G0 at g
  rcases List.mem_append.mp (List.mem_of_getElem? g) with h | h
  · obtain ⟨d, _, rfl⟩ := List.mem_map.mp h
    exact o
  · rw [List.eq_of_mem_replicate h] at o; exact o
/-- a def's promise by its body -/
theorem fn_of {x qual : Str} {st : Stmt} {f : Addr} {fd : FuncData} {N ps : List Str} {k ar c : Nat} {S : SpD} (F : Fun K x qual st f fd) (sc : FnScope N ps (defScope st)) (har : ps.length = ar) (hle : ar ≤ N.length)
    (hb : ∀ (cdv : Value) (A : Around) (outer : List Env) (s : Shared) (H : Hp) (E : XK), RoomG k (A.deeper (envOfC qual (defScope st) s.heap.objs.size f cdv)) → ∀ (ds : List D) (post : D → Prop), ds.length = ar → S ds post →
      DB (CxB P w K mg base N qual st f cdv A outer s H E) WN c (defBody st) (G0 N ds) { nx := fun _ => post .non, rt := post } XN) : FnG P w K mg base CX0 (k + 1) f fd ps (spN ar c S) := by
  refine fnG_of F sc (fun vs H Q E ⟨u, n, ds, post, A, hn, r, hl, hS, kn⟩ => by rw [r.length, hl, har]) (fun cdv A outer s H vs Q E hr ⟨u, n, ds, post, Al0, hn, r, hl, hS, kn⟩ => ?_)
  refine ⟨_, twss_pss _ _, ?_⟩
  have A0 := at_start (N := N) Al0 r (by omega)
  refine hb cdv A outer s H E hr ds post hl hS u _ H n H _ _ Al0.bs ⟨u.F, A0.s5 G0.no⟩ hn ⟨fun Γ σ H' ⟨F', S'⟩ q => ?_, fun v d H' ee p r q => ?_, fun _ _ _ _ q => q.elim, fun _ _ _ _ q => q.elim, fun _ _ _ _ _ _ _ _ _ q => q.elim⟩
  · exact kn .non .non H' (fun a o na g => S'.ex.1 a o na g) S'.at_.pen rfl q
  · exact kn v d H' (fun a o na g => ee.1 a o na g) p r q
/-- an __init__'s body: the slot 0 holds the instance -/
theorem init_bd {C : Addr} {qual : Str} {st : Stmt} {f : Addr} {N : List Str} {k ar c : Nat} {S : SpI} (hle : ar ≤ N.length)
    (hb : ∀ (cdv : Value) (A : Around) (outer : List Env) (s : Shared) (H : Hp) (E : XK), RoomG k (A.deeper (envOfC qual (defScope st) s.heap.objs.size f cdv)) → ∀ (x dx : Addr) (ds : List D) (post : List (Str × D) → Prop), ds.length + 1 = ar → S ds post →
      DB (CxB P w K mg base N qual st f cdv A outer s H E) WN c (defBody st) (.ins x dx C [] :: G0 (N.drop 1) ds) { nx := fun Γ => ∃ fs, Γ[0]? = some (.ins x dx C fs) ∧ post fs, rt := fun _ => False } XN) {cdv : Value} {A : Around} {outer : List Env} {s : Shared} {H : Hp} {vs : List V} {Q : VK} {E : XK} (hr : RoomG k (A.deeper (envOfC qual (defScope st) s.heap.objs.size f cdv))) (hq : spI C ar c S vs H Q E) :
    ∃ t, PSs (CxB P w K mg base N qual st f cdv A outer s H E) (defBody st) t ∧ t { nx := fun _ H' => Q .non H', rt := Q } (L2.start N vs) H := by
  obtain ⟨u, n, x, dx, ds, us, post, ev, Al0, nx, ncl, hn, hx, r, hl, hS, kn⟩ := hq
  refine ⟨_, twss_pss _ _, ?_⟩
  have np : x ≠ u.p := fun z => nx (by rw [z]; exact Al0.pF)
  have Al1 : Al (u.more x) n H := by
    refine ⟨.inl Al0.pF, fun z => ?_, fun b f => ?_, Al0.pen⟩
    · rcases z with z | z
      · exact Al0.cF z
      · exact ncl z.symm
    · rcases f with f | f
      · exact Al0.dom b f
      · exact ⟨_, by rw [f]; exact hx⟩
  have hlen := r.length
  obtain ⟨n0, hN⟩ : ∃ n0 Nr, N = n0 :: Nr := by
    cases N with
    | nil => simp at hle; omega
    | cons a b => exact ⟨a, b, rfl⟩
  obtain ⟨Nr, hN⟩ := hN
  have A1 : At (u.more x) n H (L2.start N vs) (.ins x dx C [] :: G0 (N.drop 1) ds) := by
    have A2 := at_start (N := Nr) Al1 r (by rw [hN, List.length_cons] at hle; omega)
    have es : L2.start N vs = some (.ref x) :: L2.start Nr us := by
      rw [hN, ev]; unfold L2.start; simp
    have eg : G0 (N.drop 1) ds = G0 Nr ds := by rw [hN]; rfl
    rw [es, eg]
    refine ⟨Al1, by simp [A2.len], fun i s g => ?_, fun i j si sj a hij g1 g2 o1 o2 e1 e2 => ?_⟩
    · cases i with
      | zero => have g : Sl.ins x dx C [] = s := by simpa using g
                subst g
                exact ⟨[], rfl, .inr rfl, np, hx, rfl⟩
      | succ i => exact A2.sl i s (by simpa using g)
    · cases i with
      | zero =>
        cases j with
        | zero => exact hij rfl
        | succ j => exact G0.no j sj (by simpa using g2) o2
      | succ i => exact G0.no i si (by simpa using g1) o1
  have B0 : Bs u (fun a => a = u.p ∨ a = x) H := ⟨Al0.pF, Al0.cF, Al0.dom, .inl rfl, fun a h f => h.elim id fun z => absurd (by rw [← z]; exact f) nx⟩
  have S0 : StOk u (fun a => a = u.p ∨ a = x) H n H (L2.start N vs) (.ins x dx C [] :: G0 (N.drop 1) ds) := by
    refine ⟨(u.more x).F, fun b f => .inl f, fun b f => f.elim .inl fun z => .inr (.inl (.inr z)), A1, fun i s a g o e => ?_, ExM.refl⟩
    cases i with
    | zero =>
      have es : (L2.start N vs)[0]? = some (some (.ref x)) := by
        rw [hN, ev]; unfold L2.start; simp
      rw [es] at e; cases e; exact .inl (.inr rfl)
    | succ i => exact absurd o (G0.no i s (by simpa using g))
  refine hb cdv A outer s H E hr x dx ds post hl hS u _ H n H _ _ B0 S0 hn ⟨fun Γ σ H' ⟨F', S'⟩ ⟨fs, g, q⟩ => ?_, fun v d H' ee p r q => q.elim, fun _ _ _ _ q => q.elim, fun _ _ _ _ q => q.elim, fun _ _ _ _ _ _ _ _ _ q => q.elim⟩
  obtain ⟨fv, e1, e2, e3, e4, e5⟩ := S'.at_.sl 0 _ g
  refine kn H' fv fs S'.ex S'.at_.pen e4 ?_ q
  exact RepF.mono (u := ⟨F', u.p, u.cl⟩) (u' := u.more x) (fun _ _ _ h => h) rfl (fun b _ f _ z => f (by
    rcases z with z | z
    · exact S'.up b z
    · rw [z]; exact e2)) _ _ e5
/-- an __init__'s promise by its body: the slot 0 holds the instance -/
theorem init_of {C : Addr} {qual : Str} {st : Stmt} {f : Addr} {fd : FuncData} {N ps : List Str} {k ar c : Nat} {S : SpI} (F : Fun K "__init__" qual st f fd) (sc : FnScope N ps (defScope st)) (har : ps.length = ar) (hle : ar ≤ N.length)
    (hb : ∀ (cdv : Value) (A : Around) (outer : List Env) (s : Shared) (H : Hp) (E : XK), RoomG k (A.deeper (envOfC qual (defScope st) s.heap.objs.size f cdv)) → ∀ (x dx : Addr) (ds : List D) (post : List (Str × D) → Prop), ds.length + 1 = ar → S ds post →
      DB (CxB P w K mg base N qual st f cdv A outer s H E) WN c (defBody st) (.ins x dx C [] :: G0 (N.drop 1) ds) { nx := fun Γ => ∃ fs, Γ[0]? = some (.ins x dx C fs) ∧ post fs, rt := fun _ => False } XN) : FnG P w K mg base CX0 (k + 1) f fd ps (spI C ar c S) :=
  fnG_of F sc (fun vs H Q E ⟨u, n, x, dx, ds, us, post, ev, A, _, _, hn, hx, r, hl, hS, kn⟩ => by rw [ev, List.length_cons, r.length, har]; omega) (fun cdv A outer s H vs Q E hr hq => init_bd hle hb hr hq)
end
/-! ### calls of own defs -/
/-- a def of the module's, by its name -/
structure FnD (P : Program) (w : World) (K : PySem.W.Frag) (mg : Str → Option Value) (base : Heap) (k : Nat) (x : Str) (ar c : Nat) (S : SpD) : Prop where
  ex : ∃ (f : Addr) (fd : FuncData) (ps : List Str), FnG P w K mg base CX0 k f fd ps (spN ar c S) ∧ mg x = some (.ref f) ∧ PySem.W.keepIn K (.ref f) = true ∧ Binds K fd ps []
/-- a method of the class at C -/
structure MtD (P : Program) (w : World) (K : PySem.W.Frag) (mg : Str → Option Value) (base : Heap) (k : Nat) (C : Addr) (m : Str) (ar c : Nat) (S : SpD) : Prop where
  ex : ∃ (f : Addr) (fd : FuncData) (ps : List Str), Cls K C ∧ Meth K C m f ∧ FnG P w K mg base CX0 k f fd ps (spN ar c S) ∧ Binds K fd ps []
/-- a class that may be made by its name -/
structure MkD (P : Program) (w : World) (K : PySem.W.Frag) (mg : Str → Option Value) (base : Heap) (k : Nat) (x : Str) (C : Addr) (ar c : Nat) (S : SpI) : Prop where
  ex : ∃ (f : Addr) (fd : FuncData) (ps : List Str), Mk K C f ∧ FnG P w K mg base CX0 k f fd ps (spI C ar c S) ∧ mg x = some (.ref C) ∧ Binds K fd ps []
section
variable {X : Cx} {W : WX} {c c1 c2 c3 : Nat} {Γ : Gm} {post : D → Prop} {xp : XP} {a b e : Expr} {pos : Pos} {k j ar : Nat} {C : Addr}
theorem de_call {x : Str} {p : Pos} {es : List Expr} {S : SpD} (F : FnD X.prog X.w X.K X.mg X.base k x ar c2 S) (hr : RoomG j X.A) (hk : k ≤ j) (h : DA X W c1 (e :: es) Γ (fun ds => ds.length = ar ∧ S ds post) xp) (hg : Gl X x := by rfl) (hdb : (x == ("__debug__" : Str)) = false := by decide)
    (he : starEach (e :: es) X.env = (false, eval e X.env) :: starEach es X.env := by rfl) (hpl : (backTo pos (starEach es X.env)).any (·.1) = false := by rfl) : DE X W (c1 + c2) (.Call (.Name x p) (e :: es) [] pos) Γ post xp := fun u n H σ Q A hn kn kx => by
  obtain ⟨f, fd, ps, F, hm, hk', hb⟩ := F.ex
  refine TW.mk fun pins s I => ?_
  refine wpAny_Call_Name_kw (ld_glob I hg hm (PySem.W.callWith_K (h₀ := X.base) I.ok.mod.kin hk' (thn (h u n H σ (fun vs H1 => spN ar c2 S vs H1 Q E0) A (by omega) (fun vs ds H1 e1 p1 r1 ⟨hl, hS⟩ => ?_) (kx.go Exp.refl (by omega)) pos pins s I) fun us s1 ⟨vs, H1, I1, r, q⟩ => ⟨I1.kIn, ?_⟩) he hpl) hdb)
  · exact ⟨u, n + c1, ds, post, A.toAl.step e1 p1, by omega, r1, hl, hS, kn.go e1 (by omega)⟩
  · have hlen : us.length = ps.length := by rw [← r.length]; exact F.len _ _ _ _ q
    refine run_g F (hr.mono hk) (fun _ _ z => z.elim) I1 r ?_ q
    have := hb s1 us I1.kIn (by simpa using hlen)
    simpa using this
theorem de_meth {m : Str} {o : Expr} {apos : Pos} {es : List Expr} {S : SpD} {pl : Sem Bool} (F : MtD X.prog X.w X.K X.mg X.base k C m ar c3 S) (hr : RoomG j X.A) (hk : k ≤ j) (h : DE X W c1 o Γ (fun d => ∃ fs, d = .obj C fs ∧ fs.lookup m = none ∧ DA X W c2 (e :: es) Γ (fun ds => ds.length + 1 = ar ∧ S (d :: ds) post) xp) xp)
    (hst : starEach (e :: es) X.env = (false, eval e X.env) :: starEach es X.env := by rfl) (hpl : (backTo pos (starEach es X.env)).any (·.1) = false := by rfl)
    (ht : eval (.Call (.Attribute o m apos) (e :: es) [] pos) X.env = (do let ov ← eval o X.env; standAt apos.atName; let (f, first) ← holding [ov] (getMethod ov m pl); callWith pos f first (backTo pos (starEach (e :: es) X.env)) (backToKw pos (keywordEach [] X.env))) := by rfl) :
    DE X W (c1 + c2 + c3) (.Call (.Attribute o m apos) (e :: es) [] pos) Γ post xp := fun u n H σ Q A hn kn kx => by
  obtain ⟨f, fd, ps, cl, hm, F, hb⟩ := F.ex
  refine TW.mk fun pins s I => ?_
  refine PySem.W.methodCall_KW (pl := pl) (thn (h u n H σ (fun x H1 => ∀ s1 v, Inv X pins σ H1 s1 → RelV x v → wpAny (model X.prog X.w) X.A (getMethod v m pl) (fun fx s₂ => wpAny (model X.prog X.w) X.A (callWith pos fx.1 fx.2 (backTo pos (starEach (e :: es) X.env)) (backToKw pos (keywordEach [] X.env))) (EP X pins σ Q) X.xe s₂) X.xe s1) A (by omega) (fun v d H1 e1 p1 r1 ⟨fs, ed, hl, h1⟩ s1 v' I1 rv => ?_) (kx.go Exp.refl (by omega)) pins s I) fun v s1 ⟨x, H1, I1, rx, q⟩ => q s1 v I1 rx) ht
  have A1 := A.toAl.step e1 p1
  subst ed
  obtain ⟨a', dx, us0, ev, f', g, rf⟩ := r1.objE
  subst ev
  obtain rfl : v' = Value.ref a' := rv
  refine getmeth_ok I1 g cl hm (rf.lookup.2 hl) (PySem.W.callWith_K (first := [.ref a']) (h₀ := X.base) I1.ok.mod.kin hm.kp (thn (h1 u (n + c1) H1 σ (fun vs H2 => spN ar c3 S (.ref a' :: vs) H2 Q E0) (A.step e1 p1) (by omega) (fun vs ds H2 e2 p2 r2 ⟨hl2, hS⟩ => ?_) (kx.go e1 (by omega)) pos pins s1 I1) fun us s2 ⟨vs, H2, I2, r, q⟩ => ⟨I2.kIn, ?_⟩) hst hpl)
  · exact ⟨u, n + c1 + c2, .obj C fs :: ds, post, A1.step e2 p2, by omega, RepL.cons (r1.go A1 e2) r2, by simpa using hl2, hS, kn.go (e1.trans e2) (by omega)⟩
  · have r3 : Vals (.ref a' :: vs) (.ref a' :: us) := .cons rfl r
    have hlen : (Value.ref a' :: us).length = ps.length := by rw [← r3.length]; exact F.len _ _ _ _ q
    refine run_g F (hr.mono hk) (fun _ _ z => z.elim) I2 r3 ?_ q
    simpa using hb s2 (.ref a' :: us) I2.kIn (by simpa using hlen)
theorem de_meth0 {m : Str} {o : Expr} {apos : Pos} {S : SpD} {pl : Sem Bool} (F : MtD X.prog X.w X.K X.mg X.base k C m ar c3 S) (hr : RoomG j X.A) (hk : k ≤ j) (h : DE X W c1 o Γ (fun d => ∃ fs, d = .obj C fs ∧ fs.lookup m = none ∧ 1 = ar ∧ S [d] post) xp)
    (ht : eval (.Call (.Attribute o m apos) [] [] pos) X.env = (do let ov ← eval o X.env; standAt apos.atName; let (f, first) ← holding [ov] (getMethod ov m pl); callWith pos f first (backTo pos (starEach [] X.env)) (backToKw pos (keywordEach [] X.env))) := by rfl) :
    DE X W (c1 + c3) (.Call (.Attribute o m apos) [] [] pos) Γ post xp := fun u n H σ Q A hn kn kx => by
  obtain ⟨f, fd, ps, cl, hm, F, hb⟩ := F.ex
  refine TW.mk fun pins s I => ?_
  refine PySem.W.methodCall_KW (pl := pl) (thn (h u n H σ (fun x H1 => ∀ s1 v, Inv X pins σ H1 s1 → RelV x v → wpAny (model X.prog X.w) X.A (getMethod v m pl) (fun fx s₂ => wpAny (model X.prog X.w) X.A (callWith pos fx.1 fx.2 (backTo pos (starEach [] X.env)) (backToKw pos (keywordEach [] X.env))) (EP X pins σ Q) X.xe s₂) X.xe s1) A (by omega) (fun v d H1 e1 p1 r1 ⟨fs, ed, hl, h1, hS⟩ s1 v' I1 rv => ?_) (kx.go Exp.refl (by omega)) pins s I) fun v s1 ⟨x, H1, I1, rx, q⟩ => q s1 v I1 rx) ht
  have A1 := A.toAl.step e1 p1
  subst ed
  obtain ⟨a', dx, us0, ev, f', g, rf⟩ := r1.objE
  subst ev
  obtain rfl : v' = Value.ref a' := rv
  have q : spN ar c3 S [.ref a'] H1 Q E0 := ⟨u, n + c1, [.obj C fs], post, A1, by omega, RepL.cons r1 RepL.nil, h1, hS, kn.go e1 (by omega)⟩
  have r3 : Vals [.ref a'] [.ref a'] := .cons rfl .nil
  have hlen : [Value.ref a'].length = ps.length := by rw [← r3.length]; exact F.len _ _ _ _ q
  refine getmeth_ok I1 g cl hm (rf.lookup.2 hl) (PySem.W.callWith_K0 (first := [.ref a']) I1.kIn hm.kp (run_g F (hr.mono hk) (fun _ _ z => z.elim) I1 r3 ?_ q))
  simpa using hb s1 [.ref a'] I1.kIn (by simpa using hlen)
/-- behind the making of an instance -/
theorem made_ok {u : U} {n : Nat} {H : Hp} {ds : List D} {vs : List V} {x dx : Addr} {Q : VK} {S : SpI} (A : Al u n H) (hn : n + c2 ≤ lim) (r : RepL u H ds vs) (hl : ds.length + 1 = ar) (hS : S ds (fun fs => post (.obj C fs))) (kn : KN u (n + c2) H post Q) (hx : H x = none) (hdx : H dx = none) (hne : dx ≠ x) :
    spI C ar c2 S (.ref x :: vs) (upd (upd H dx (.own x)) x (.ins C dx [])) (fun v H2 => v = .non ∧ Q (.ref x) H2) E0 := by
  have hx1 : upd H dx (.own x) x = none := by rw [upd_ne hne.symm]; exact hx
  have k : ∀ a o, H a = some o → upd (upd H dx (.own x)) x (.ins C dx []) a = some o := fun a o g => by
    rw [upd_ne (ne_of_none g hx), upd_ne (ne_of_none g hdx)]; exact g
  have A1 : Al u n (upd (upd H dx (.own x)) x (.ins C dx [])) := A.step (exp_keep k) (A.pen.keep k)
  refine ⟨u, n, x, dx, ds, vs, fun fs => post (.obj C fs), rfl, A1, A.notF hx, fun z => ?_, hn, upd_same, ?_, hl, hS, fun H' fv fs ee p g rf q => ⟨rfl, ?_⟩⟩
  · obtain ⟨ns, t, r', a1, a4, _⟩ := A.pen
    rw [← z, hx] at a4; cases a4
  · exact RepL.mono (u := u) (u' := u.more x) (fun a o f g => k a o g) rfl (more_nF hx) _ _ r
  · refine kn (.ref x) (.obj C fs) H' (fun a o na g' => ?_) p ⟨x, dx, fv, rfl, A.notF hx, g, RepF.mono (u := u.more x) (u' := u) (fun _ _ _ h => h) rfl (fun b _ f _ z => f (.inl z)) _ _ rf⟩ q
    refine ee.1 a o (fun z => ?_) (k a o g')
    rcases z with z | z
    · exact na z
    · rw [z, hx] at g'; cases g'
theorem make_d {f : Addr} {fd : FuncData} {ps : List Str} {S : SpI} {pins : List (Addr × Obj)} {σ : L2.St} {H : Hp} {s : Shared} {Q : VK} {us : List Value} {vs : List V} (F : FnG X.prog X.w X.K X.mg X.base CX0 k f fd ps (spI C ar c2 S)) (hr : RoomG (k + 1) X.A) (M : Mk X.K C f) (hb : Binds X.K fd ps []) (I : Inv X pins σ H s) (r : Vals vs us)
    (h : ∀ x dx, H x = none → H dx = none → dx ≠ x → spI C ar c2 S (.ref x :: vs) (upd (upd H dx (.own x)) x (.ins C dx [])) (fun v H2 => v = .non ∧ Q (.ref x) H2) E0) : wpAny (model X.prog X.w) X.A (call (.ref C) us) (EP X pins σ Q) X.xe s := by
  refine make_g M F hr I (fun _ _ _ _ _ z => z.elim) (fun x => .cons rfl r) (fun s2 x hk => ?_) h
  have hq := h (s.heap.objs.size + 1) s.heap.objs.size (I.hok.fresh (Nat.le_succ _)) (I.hok.fresh (Nat.le_refl _)) (Nat.ne_of_lt (Nat.lt_succ_self _))
  have hlen := F.len _ _ _ _ hq
  have e := r.length
  simpa using hb s2 (.ref x :: us) hk (by simpa [← e] using hlen)
theorem de_make {x : Str} {p : Pos} {es : List Expr} {S : SpI} (F : MkD X.prog X.w X.K X.mg X.base k x C ar c2 S) (hr : RoomG j X.A) (hk : k + 1 ≤ j) (h : DA X W c1 (e :: es) Γ (fun ds => ds.length + 1 = ar ∧ S ds (fun fs => post (.obj C fs))) xp) (hg : Gl X x := by rfl) (hdb : (x == ("__debug__" : Str)) = false := by decide)
    (he : starEach (e :: es) X.env = (false, eval e X.env) :: starEach es X.env := by rfl) (hpl : (backTo pos (starEach es X.env)).any (·.1) = false := by rfl) : DE X W (c1 + c2) (.Call (.Name x p) (e :: es) [] pos) Γ post xp := fun u n H σ Q A hn kn kx => by
  obtain ⟨f, fd, ps, M, F, hm, hb⟩ := F.ex
  refine TW.mk fun pins s I => ?_
  refine wpAny_Call_Name_kw (ld_glob I hg hm (PySem.W.callWith_K (h₀ := X.base) I.ok.mod.kin M.kp (thn (h u n H σ (fun vs H1 => ∀ x' dx, H1 x' = none → H1 dx = none → dx ≠ x' → spI C ar c2 S (.ref x' :: vs) (upd (upd H1 dx (.own x')) x' (.ins C dx [])) (fun v H2 => v = .non ∧ Q (.ref x') H2) E0) A (by omega) (fun vs ds H1 e1 p1 r1 ⟨hl, hS⟩ x' dx hx hdx hne => made_ok (A.toAl.step e1 p1) (by omega) r1 hl hS (kn.go e1 (by omega)) hx hdx hne) (kx.go Exp.refl (by omega)) pos pins s I) fun us s1 ⟨vs, H1, I1, r, q⟩ => ⟨I1.kIn, ?_⟩) he hpl) hdb)
  exact make_d F (hr.mono hk) M hb I1 r q
theorem de_make0 {x : Str} {p : Pos} {S : SpI} (F : MkD X.prog X.w X.K X.mg X.base k x C ar c2 S) (hr : RoomG j X.A) (hk : k + 1 ≤ j) (h : 1 = ar ∧ S [] (fun fs => post (.obj C fs))) (hg : Gl X x := by rfl) (hdb : (x == ("__debug__" : Str)) = false := by decide) : DE X W c2 (.Call (.Name x p) [] [] pos) Γ post xp := fun u n H σ Q A hn kn kx => by
  obtain ⟨f, fd, ps, M, F, hm, hb⟩ := F.ex
  refine TW.mk fun pins s I => ?_
  exact wpAny_Call_Name_kw (ld_glob I hg hm (PySem.W.callWith_K0 I.kIn M.kp (make_d (vs := []) (us := []) F (hr.mono hk) M hb I .nil fun x' dx hx hdx hne => made_ok (vs := []) A.toAl hn RepL.nil h.1 h.2 kn hx hdx hne)) hdb)
end
/-! ### the attributes that an __init__ stores -/
def putD (f : Str) (v : D) : List (Str × D) → List (Str × D)
  | [] => [(f, v)]
  | (g, x) :: r => if g = f then (g, v) :: r else (g, x) :: putD f v r
theorem RepF.put {u : U} {H : Hp} {f : Str} {d : D} {v : V} (rd : Rep u H d v) : ∀ {fs : List (Str × D)} {us : List (Str × V)}, RepF u H fs us → RepF u H (putD f d fs) (putF f v us)
  | [], us, h => by rw [show us = [] from h]; exact ⟨v, [], rfl, rd, rfl⟩
  | (g, x) :: fs, us, h => by
    obtain ⟨y, r, e, a, b⟩ := (show ∃ v r, us = (g, v) :: r ∧ Rep u H x v ∧ RepF u H fs r from h)
    rw [e]
    unfold putD putF
    by_cases hg : g = f
    · rw [if_pos hg, if_pos hg]; exact ⟨v, r, rfl, rd, b⟩
    · rw [if_neg hg, if_neg hg]; exact ⟨y, _, rfl, a, RepF.put rd b⟩
theorem RepF.length {u : U} {H : Hp} : ∀ {fs : List (Str × D)} {us : List (Str × V)}, RepF u H fs us → us.length = fs.length
  | [], us, h => by rw [show us = [] from h]; rfl
  | (g, x) :: fs, us, h => by
    obtain ⟨y, r, e, a, b⟩ := (show ∃ v r, us = (g, v) :: r ∧ Rep u H x v ∧ RepF u H fs r from h)
    rw [e, List.length_cons, List.length_cons, RepF.length b]
theorem S5.writeIns {u : U} {M : Addr → Prop} {H0 H : Hp} {F : Addr → Prop} {n : Nat} {σ : L2.St} {Γ : Gm} {l dx C : Addr} {i : Nat} {fs : List (Str × D)} {ws : List (Str × V)} {es : List (Str × D)} (S : S5 u M H0 F n H σ Γ) (g : Γ[i]? = some (.ins l dx C fs)) (r : RepF ⟨F, u.p, u.cl⟩ H es ws) :
    S5 u M H0 F n (upd H l (.ins C dx ws)) σ (Γ.set i (.ins l dx C es)) := by
  obtain ⟨vs0, el, fl, np, hq0, _⟩ := S.at_.sl i _ g
  have kp : Kp F H (upd H l (.ins C dx ws)) := updF_kp (u := ⟨F, u.p, u.cl⟩) fl
  refine ⟨S.up, S.new, ⟨S.at_.toAl.updF _ fl np, by simp [S.at_.len], fun j s g' => ?_, fun j k sj sk b hjk g1 g2 o1 o2 e1 e2 => ?_⟩, fun j s b g' o e => ?_, ?_⟩
  · rcases set_get g' with ⟨h1, h2⟩ | ⟨h1, h2⟩
    · subst h1; subst h2
      exact ⟨ws, el, fl, np, upd_same, RepF.mono (u := ⟨F, u.p, u.cl⟩) kp rfl (fun _ _ f _ => f) _ _ r⟩
    · exact (S.at_.sl j s h2).updF fl (fun o z => S.at_.sep j i s _ l h1 h2 g o trivial z el)
  · have own_of : ∀ {j : Nat} {s : Sl}, (Γ.set i (.ins l dx C es))[j]? = some s → s.own → ∃ s', Γ[j]? = some s' ∧ s'.own := fun {j s} g' o => by
      rcases set_get g' with ⟨h1, h2⟩ | ⟨h1, h2⟩
      · subst h1; exact ⟨_, g, trivial⟩
      · exact ⟨s, h2, o⟩
    obtain ⟨s1, a1, b1⟩ := own_of g1 o1
    obtain ⟨s2, a2, b2⟩ := own_of g2 o2
    exact S.at_.sep j k s1 s2 b hjk a1 a2 b1 b2 e1 e2
  · rcases set_get g' with ⟨h1, h2⟩ | ⟨h1, h2⟩
    · subst h1; exact S.own j _ b g trivial e
    · exact S.own j s b h2 o e
  · have hl : M l ∨ H0 l = none := S.own i _ l g trivial el
    refine ⟨fun b o nm hg => ?_, fun b o hg => ?_⟩
    · have hb : b ≠ l := fun z => by
        subst z
        rcases hl with hl | hl
        · exact nm hl
        · rw [hl] at hg; cases hg
      rw [upd_ne hb]; exact S.ex.1 b o nm hg
    · by_cases hb : b = l
      · exact ⟨_, by rw [hb]; exact upd_same⟩
      · obtain ⟨o', g'⟩ := S.ex.2 b o hg
        exact ⟨o', by rw [upd_ne hb]; exact g'⟩
section
variable {X : Cx} {W : WX} {c c1 c2 c3 : Nat} {Γ : Gm} {O : Out} {xp : XP} {a b e : Expr} {pos : Pos} {C : Addr}
/-- self.f = e (e does not read self) -/
theorem ds_fld (i : Nat) {x f : Str} {p1 p2 : Pos} {l dx : Addr} {fs : List (Str × D)} (g : Γ[i]? = some (.ins l dx C fs)) (hcl : Cls X.K C) (hna : NoAttr X.K C f) (hz : fs.length < 1000) (h : DE X W c e Γ (fun d => O.nx (Γ.set i (.ins l dx C (putD f d fs)))) xp) (hi : X.N[i]? = some x := by rfl) (hv : Vis X.env.scope x := by first | exact Or.inl rfl | exact Or.inr (Or.inl rfl) | exact Or.inr (Or.inr rfl))
    (hs : swapsWith e (some (.Attribute (.Name x p1) f p2)) pos.line X.env = pure false := by rfl) (hd : (x == ("__debug__" : Str)) = false := by decide) (hcd : (x == ("__classdict__" : Str)) = false := by decide) : DSt X W c (.Assign [.Attribute (.Name x p1) f p2] e pos) Γ O xp := fun u M H0 n H σ D B S hn k => by
  obtain ⟨F, S⟩ := S
  refine tws_of (ps_fld (pe_var hi hv hd hcd) (tw_pe X e) hs) ?_
  refine h ⟨F, u.p, u.cl⟩ n H σ _ S.at_ hn (fun v d H1 e1 p1 r1 q => ?_) (k.kx (F := F) B _ rfl rfl S.up S.ex (Nat.le_refl _))
  have S1 := S.step B e1 p1
  obtain ⟨us, el, fl, np, hq, rf⟩ := S1.at_.sl i _ g
  exact ⟨.ref l, el, l, C, dx, us, rfl, hq, hcl, hna, by rw [rf.length]; exact hz, k.nx _ _ _ ⟨F, S1.writeIns g (rf.put r1)⟩ q⟩
/-- a, b, .. = e: the names' slots, from the left -/
inductive Tgs (X : Cx) : List Expr → List Nat → Prop where
  | nil : Tgs X [] []
  | cons {x : Str} {i : Nat} {p : Pos} {es : List Expr} {is : List Nat} (hg : PG X (.Name x p) (gName i)) (h : Tgs X es is) : Tgs X (.Name x p :: es) (i :: is)
def setAll (Γ : Gm) : List Nat → List D → Gm
  | i :: is, d :: ds => setAll (Γ.set i (.va d)) is ds
  | _, _ => Γ
def setVs (σ : L2.St) : List Nat → List V → L2.St
  | i :: is, v :: vs => setVs (σ.set i (some v)) is vs
  | _, _ => σ
def gAll : List Nat → TGs
  | [] => gNil
  | i :: is => gCons (gName i) (gAll is)
theorem tgs_pgs {es : List Expr} {is : List Nat} (h : Tgs X es is) : PGs X es (gAll is) := by
  induction h with
  | nil => exact pgs_nil
  | cons hg _ ih => exact pgs_cons hg ih
theorem gAll_run : ∀ {is : List Nat} {vs : List V} {σ : L2.St} {H : Hp} {Q : L2.St → Hp → Prop}, vs.length = is.length → Q (setVs σ is vs) H → gAll is vs σ H Q
  | [], [], σ, H, Q, _, q => ⟨rfl, q⟩
  | i :: is, v :: vs, σ, H, Q, hl, q => ⟨v, vs, rfl, gAll_run (is := is) (vs := vs) (by simpa using hl) q⟩
  | [], _ :: _, _, _, _, h, _ => by simp at h
  | _ :: _, [], _, _, _, h, _ => by simp at h
theorem S5.setAll {u : U} {M : Addr → Prop} {H0 H : Hp} {F : Addr → Prop} {n : Nat} : ∀ {is : List Nat} {ds : List D} {vs : List V} {σ : L2.St} {Γ : Gm}, S5 u M H0 F n H σ Γ → RepL ⟨F, u.p, u.cl⟩ H ds vs → S5 u M H0 F n H (setVs σ is vs) (setAll Γ is ds)
  | [], ds, vs, σ, Γ, S, _ => by
    cases ds <;> cases vs <;> exact S
  | i :: is, [], vs, σ, Γ, S, r => by rw [show vs = [] from r]; exact S
  | i :: is, d :: ds, vs, σ, Γ, S, r => by
    obtain ⟨v, w, e, a, b⟩ := r.uncons
    rw [e]
    exact S5.setAll (is := is) (S.setVa (j := i) a) b
theorem ds_unp {es : List Expr} (is : List Nat) {kt : Nat} {pt : Pos} (hT : Tgs X es is) (h : DE X W c e Γ (fun d => ∃ ds, (d = .tup ds ∨ d = .lst ds) ∧ ds.length = is.length ∧ O.nx (setAll Γ is ds)) xp) (hc : X.calm = true := by rfl) (hn' : (assignEach es X.env).length = is.length := by rfl)
    (hst : (assignEach es X.env).findIdx? (·.1) = none := by rfl) (hs : swapsWithSole [.Tuple es kt pt] e pos.line X.env = pure false := by rfl) (hw : swappedStores [.Tuple es kt pt] e X.env = pure none := by rfl)
    (h1 : (assignEach [.Tuple es kt pt] X.env).map (·.2) = [assign (.Tuple es kt pt) X.env] := by rfl) : DSt X W c (.Assign [.Tuple es kt pt] e pos) Γ O xp := fun u M H0 n H σ D B S hn k => by
  obtain ⟨F, S⟩ := S
  refine tws_of (ps_asg (g := fun v σ H Q => gTup X.K is.length (gAll is) v σ H Q ∨ gUnl X.K is.length (gAll is) v σ H Q) (tw_pe X e) ⟨fun pins s σ H v u Q I r hw => hw.elim (fun z => (pg_tup hc (tgs_pgs hT) hn' hst).run pins s σ H v u Q I r z) (fun z => (pg_unl hc (tgs_pgs hT) hn' hst).run pins s σ H v u Q I r z)⟩ hs hw h1) ?_
  refine h ⟨F, u.p, u.cl⟩ n H σ _ S.at_ hn (fun v d H1 e1 p1 r1 ⟨ds, hd, hl, q⟩ => ?_) (k.kx (F := F) B _ rfl rfl S.up S.ex (Nat.le_refl _))
  have S1 := S.step B e1 p1
  rcases hd with rfl | rfl
  · obtain ⟨a, vs, ev, f, g, rl⟩ := r1.tupE
    exact .inl ⟨a, vs, ev, SqT.of g, by rw [rl.length, hl], gAll_run (by rw [rl.length, hl]) (k.nx _ _ _ ⟨F, S1.setAll rl⟩ q)⟩
  · obtain ⟨a, vs, ev, f, g, rl⟩ := r1.lstE
    exact .inr ⟨a, vs, ev, SqL.of g, by rw [rl.length, hl], gAll_run (by rw [rl.length, hl]) (k.nx _ _ _ ⟨F, S1.setAll rl⟩ q)⟩
end
end Dx
-- DxK
namespace Dx
open PySem PySem.Spec PyProof.Rows L2
/-! ### the pen -/
/-- the rest of a great cell -/
def Rst (r : Int) : Prop := 0 ≤ r ∧ r.natAbs < 2 ^ BB
/-- a cell -/
def Cel (r : Int) : Prop := r.natAbs < 2 ^ (BB - 3)
section
variable {X : Cx} {W : WX} {c c1 c2 c3 : Nat} {Γ : Gm} {post : D → Prop} {O : Out} {xp : XP} {a b e : Expr} {pos : Pos}
theorem pen_at {u : U} {n : Nat} {H : Hp} {σ : L2.St} {i : Nat} (A : At u n H σ Γ) (g : Γ[i]? = some (.va .pen)) : σ[i]? = some (some (.ref u.p)) := by
  obtain ⟨v, h1, h2⟩ := A.sl i _ g
  rw [h1, show v = .ref u.p from h2]
theorem de_pen0 (i : Nat) {x : Str} {p1 p2 : Pos} {j} (g : Γ[i]? = some (.va .pen)) (h : ∀ ns : List Int, ns.length ≤ 63 → (∀ k ∈ ns, Cel k) → post (.lst (ns.map D.int))) (hN : X.N[i]? = some x := by rfl) (hv : Vis X.env.scope x := by first | exact Or.inl rfl | exact Or.inr (Or.inl rfl) | exact Or.inr (Or.inr rfl))
    (hd : (x == ("__debug__" : Str)) = false := by decide) (hcd : (x == ("__classdict__" : Str)) = false := by decide) (hs : PlainIx (.Constant (.int 0) j p2) := by exact fun _ _ => rfl) : DE X W 0 (.Subscript (.Name x p1) (.Constant (.int 0) j p2) pos) Γ post xp := fun u n H σ Q A hn kn kx => by
  obtain ⟨ns, t, r, h1, h2, h3, h4, h5, h6, h7, h8⟩ := A.pen
  refine tw_of (pe_ix ix_list (pe_var hN hv hd hcd) pe_int hs) ⟨_, pen_at A g, u.p, _, 0, .ref u.cl, rfl, rfl, SqL.of h1, rfl, ?_⟩
  exact kn.here (d := .lst (ns.map D.int)) A.toAl ⟨u.cl, _, rfl, A.cF, h2, RepL.ofInts⟩ (h ns h3 h8)
theorem de_pen2 (i : Nat) {x : Str} {p1 p2 : Pos} {j} (g : Γ[i]? = some (.va .pen)) (h : ∀ r : Int, Rst r → post (.int r)) (hN : X.N[i]? = some x := by rfl) (hv : Vis X.env.scope x := by first | exact Or.inl rfl | exact Or.inr (Or.inl rfl) | exact Or.inr (Or.inr rfl))
    (hd : (x == ("__debug__" : Str)) = false := by decide) (hcd : (x == ("__classdict__" : Str)) = false := by decide) (hs : PlainIx (.Constant (.int 2) j p2) := by exact fun _ _ => rfl) : DE X W 0 (.Subscript (.Name x p1) (.Constant (.int 2) j p2) pos) Γ post xp := fun u n H σ Q A hn kn kx => by
  obtain ⟨ns, t, r, h1, h2, h3, h4, h5, h6, h7, h8⟩ := A.pen
  refine tw_of (pe_ix ix_list (pe_var hN hv hd hcd) pe_int hs) ⟨_, pen_at A g, u.p, _, 2, .int r, rfl, rfl, SqL.of h1, rfl, ?_⟩
  exact kn.here (d := .int r) A.toAl rfl (h r ⟨h6, h7⟩)
theorem ds_pen2 (i : Nat) {x : Str} {p1 p2 p3 : Pos} {j} (g : Γ[i]? = some (.va .pen)) (h : DE X W c e Γ (fun d => ∃ r, d = .int r ∧ Rst r ∧ O.nx Γ) xp) (hN : X.N[i]? = some x := by rfl) (hv : Vis X.env.scope x := by first | exact Or.inl rfl | exact Or.inr (Or.inl rfl) | exact Or.inr (Or.inr rfl))
    (hd : (x == ("__debug__" : Str)) = false := by decide) (hcd : (x == ("__classdict__" : Str)) = false := by decide)
    (ha : ∀ v, assign (.Subscript (.Name x p1) (.Constant (.int 2) j p2) p3) X.env v = (do let ov ← holding [v] (eval (.Name x p1) X.env); let iv ← holding [v, ov] (eval (.Constant (.int 2) j p2) X.env); standAt p3; holding [v, ov, iv] (setItem ov iv v); release [v, ov, iv] []) := by intro _; rfl)
    (hs : swapsWithSole [.Subscript (.Name x p1) (.Constant (.int 2) j p2) p3] e pos.line X.env = pure false := by rfl) (hw : swappedStores [.Subscript (.Name x p1) (.Constant (.int 2) j p2) p3] e X.env = pure none := by rfl)
    (h1 : (assignEach [.Subscript (.Name x p1) (.Constant (.int 2) j p2) p3] X.env).map (·.2) = [assign (.Subscript (.Name x p1) (.Constant (.int 2) j p2) p3) X.env] := by rfl) :
    DSt X W c (.Assign [.Subscript (.Name x p1) (.Constant (.int 2) j p2) p3] e pos) Γ O xp := fun u M H0 n H σ D B S hn k => by
  obtain ⟨F, S⟩ := S
  refine tws_of (ps_asg (tw_pe X e) (pg_sub (pe_var hN hv hd hcd) pe_int set_list ha) hs hw h1) ?_
  refine h ⟨F, u.p, u.cl⟩ n H σ _ S.at_ hn (fun v d H1 e1 p1 r1 ⟨r, ed, hr, q⟩ => ?_) (k.kx (F := F) B _ rfl rfl S.up S.ex (Nat.le_refl _))
  subst ed
  have S1 := S.step B e1 p1
  obtain ⟨ns, t, r0, h1, h2, h3, h4, h5, h6, h7, h8⟩ := S1.at_.pen
  refine ⟨.ref u.p, pen_at (u := ⟨F, u.p, u.cl⟩) S1.at_ g, u.p, [.ref u.cl, .int t, .int r0], 2, 2, rfl, rfl, h1, rfl, ?_⟩
  refine k.nx Γ σ _ ⟨F, S1.step B (H' := upd H1 u.p (.lst [.ref u.cl, .int t, v])) (fun b o nb hb => by rw [upd_ne nb]; exact hb) ⟨ns, t, r, ?_, ?_, h3, h4, h5, hr.1, hr.2, h8⟩⟩ q
  · rw [show v = .int r from r1]; exact upd_same
  · rw [upd_ne]
    · exact h2
    · intro z
      exact S1.at_.cF (by rw [z]; exact S1.at_.pF)
/-- at = pen[1]; pen[1] = at + 1; .. -/
theorem db_pen1 (i l : Nat) {x y : Str} {p1 p2 p3 p4 p5 p6 p7 p8 p9 q1 q2 q3 : Pos} {j j2 j3} {rest : List Stmt} (g : Γ[i]? = some (.va .pen)) (hil : i ≠ l) (hll : l < Γ.length) (hN : X.N.Nodup) (h : ∀ t : Int, 0 ≤ t → t ≤ 1000000 → DB X W c rest (Γ.set l (.va (.int t))) O xp) (hi : X.N[i]? = some x := by rfl) (hl : X.N[l]? = some y := by rfl)
    (hv : Vis X.env.scope x := by first | exact Or.inl rfl | exact Or.inr (Or.inl rfl) | exact Or.inr (Or.inr rfl)) (hvy : X.env.scope.names.lookup y = some .local := by rfl) (hd : (x == ("__debug__" : Str)) = false := by decide) (hcd : (x == ("__classdict__" : Str)) = false := by decide) (hdy : (y == ("__debug__" : Str)) = false := by decide) (hcdy : (y == ("__classdict__" : Str)) = false := by decide)
    (hs1 : swapsWith (.Subscript (.Name x p1) (.Constant (.int 1) j p2) p3) (some (.Name y p4)) p5.line X.env = pure false := by rfl) (hix : PlainIx (.Constant (.int 1) j p2) := by exact fun _ _ => rfl)
    (ha : ∀ v, assign (.Subscript (.Name x p6) (.Constant (.int 1) j2 p7) p8) X.env v = (do let ov ← holding [v] (eval (.Name x p6) X.env); let iv ← holding [v, ov] (eval (.Constant (.int 1) j2 p7) X.env); standAt p8; holding [v, ov, iv] (setItem ov iv v); release [v, ov, iv] []) := by intro _; rfl)
    (hs : swapsWithSole [.Subscript (.Name x p6) (.Constant (.int 1) j2 p7) p8] (.BinOp (.Name y q1) .Add (.Constant (.int 1) j3 q2) q3) p9.line X.env = pure false := by rfl) (hw : swappedStores [.Subscript (.Name x p6) (.Constant (.int 1) j2 p7) p8] (.BinOp (.Name y q1) .Add (.Constant (.int 1) j3 q2) q3) X.env = pure none := by rfl)
    (h1 : (assignEach [.Subscript (.Name x p6) (.Constant (.int 1) j2 p7) p8] X.env).map (·.2) = [assign (.Subscript (.Name x p6) (.Constant (.int 1) j2 p7) p8) X.env] := by rfl) :
    DB X W (c + 1) (.Assign [.Name y p4] (.Subscript (.Name x p1) (.Constant (.int 1) j p2) p3) p5 :: .Assign [.Subscript (.Name x p6) (.Constant (.int 1) j2 p7) p8] (.BinOp (.Name y q1) .Add (.Constant (.int 1) j3 q2) q3) p9 :: rest) Γ O xp := fun u M H0 n H σ D B S hn k => by
  obtain ⟨F, S⟩ := S
  refine twss_of (pss_cons (ps_set hN hl (.inl hvy) (pe_ix ix_list (pe_var hi hv hd hcd) pe_int hix) hs1 (.inr hvy)) (pss_cons (ps_asg (pe_op op_add (pe_var hl (.inl hvy) hdy hcdy) pe_int) (pg_sub (pe_var hi hv hd hcd) pe_int set_list ha) hs hw h1) (twss_pss X rest))) ?_
  obtain ⟨ns, t, r0, a1, a2, a3, a4, a5, a6, a7, a8⟩ := S.at_.pen
  have gp := pen_at (u := ⟨F, u.p, u.cl⟩) S.at_ g
  refine ⟨.ref u.p, gp, u.p, [.ref u.cl, .int t, .int r0], 1, .int t, rfl, rfl, SqL.of a1, rfl, ?_⟩
  have hll : l < σ.length := by rw [S.at_.len]; exact hll
  refine ⟨.int t, by rw [List.getElem?_set_self hll], t, 1, rfl, rfl, .ref u.p, by rw [List.getElem?_set_ne (Ne.symm hil)]; exact gp, u.p, [.ref u.cl, .int t, .int r0], 1, 1, rfl, rfl, a1, rfl, ?_⟩
  have S1 : S5 u M H0 F n H (σ.set l (some (.int t))) (Γ.set l (.va (.int t))) := S.setVa (d := .int t) (v := .int t) rfl
  have lim1 : n + (c + 1) ≤ 1000000 := hn
  refine h t a4 (by omega) u M H0 (n + 1) _ _ D B ⟨F, S1.step B (H' := upd H u.p (.lst [.ref u.cl, .int (t + 1), .int r0])) (fun b o nb hb => by rw [upd_ne nb]; exact hb) ⟨ns, t + 1, r0, upd_same, ?_, a3, by omega, by omega, a6, a7, a8⟩⟩ (by omega) (k.le (by omega))
  rw [upd_ne]
  · exact a2
  · intro z
    exact S.at_.cF (by rw [z]; exact S.at_.pF)
end
end Dx
-- DxL
namespace Dx
open PySem PySem.Spec PyProof.Rows L2
/-! ### data of the library's kind -/
mutual
def pyD : D → Option PyData
  | .non => some .none
  | .bl b => some (.bool b)
  | .int i => some (.int i)
  | .str x => some (.str x)
  | .tup ds => (pyL ds).map .tuple
  | .lst ds => (pyL ds).map .list
  | _ => none
def pyL : List D → Option (List PyData)
  | [] => some []
  | d :: ds => match pyD d, pyL ds with
    | some y, some ys => some (y :: ys)
    | _, _ => none
end
theorem pyL_cons {d : D} {ds : List D} {ys : List PyData} (h : pyL (d :: ds) = some ys) : ∃ y r, pyD d = some y ∧ pyL ds = some r ∧ ys = y :: r := by
  unfold pyL at h
  cases e1 : pyD d with
  | none => rw [e1] at h; cases h
  | some y =>
    cases e2 : pyL ds with
    | none => rw [e1, e2] at h; cases h
    | some r => rw [e1, e2] at h; cases h; exact ⟨y, r, rfl, rfl, rfl⟩
mutual
theorem dp_rep {K : PySem.W.Frag} {u : U} {H : Hp} : ∀ (d : D) (v : V) (y : PyData), Rep u H d v → pyD d = some y → Dp K H v y
  | .non, v, y, r, h => by rw [show v = .non from r]; cases h; exact .non
  | .bl b, v, y, r, h => by rw [show v = .bl b from r]; cases h; exact .bl b
  | .int b, v, y, r, h => by rw [show v = .int b from r]; cases h; exact .int b
  | .str b, v, y, r, h => by rw [show v = .str b from r]; cases h; exact .str b
  | .pen, v, y, r, h => by cases h
  | .ref _, v, y, r, h => by cases h
  | .ty _, v, y, r, h => by cases h
  | .dic _, v, y, r, h => by cases h
  | .obj _ _, v, y, r, h => by cases h
  | .tup ds, v, y, r, h => by
    obtain ⟨a, vs, e, f, g, rl⟩ := r.tupE
    have h : (pyL ds).map PyData.tuple = some y := h
    cases e1 : pyL ds with
    | none => rw [e1] at h; cases h
    | some ys => rw [e1] at h; cases h; rw [e]; exact .tup (SqT.of g) (dp_repL ds vs ys rl e1)
  | .lst ds, v, y, r, h => by
    obtain ⟨a, vs, e, f, g, rl⟩ := r.lstE
    have h : (pyL ds).map PyData.list = some y := h
    cases e1 : pyL ds with
    | none => rw [e1] at h; cases h
    | some ys => rw [e1] at h; cases h; rw [e]; exact .lst (SqL.of g) (dp_repL ds vs ys rl e1)
theorem dp_repL {K : PySem.W.Frag} {u : U} {H : Hp} : ∀ (ds : List D) (vs : List V) (ys : List PyData), RepL u H ds vs → pyL ds = some ys → DpAll K H vs ys
  | [], vs, ys, r, h => by rw [show vs = [] from r]; cases h; exact .nil
  | d :: ds, vs, ys, r, h => by
    obtain ⟨v, w, e, a, b⟩ := r.uncons
    obtain ⟨y, z, h1, h2, h3⟩ := pyL_cons h
    rw [e, h3]; exact .cons (dp_rep d v y a h1) (dp_repL ds w z b h2)
end
section
variable {X : Cx} {W : WX} {c c1 c2 c3 : Nat} {Γ : Gm} {post : D → Prop} {O : Out} {xp : XP} {a b e : Expr} {pos : Pos} {k : Nat}
theorem o2_eqD {d1 d2 : D} {y1 y2 : PyData} (hr : RoomG k X.A) (h1 : pyD d1 = some y1) (h2 : pyD d2 = some y2) (s1 : SeqAt.shaped y1 = true) (s2 : SeqAt.shaped y2 = true) (q : post (.bl (PyData.eqv y1 y2))) : O2 X W 0 (compareOp .Eq) d1 d2 post xp :=
  o2_of (d := .bl (PyData.eqv y1 y2)) (op_eqD (by have := hr.room.un; omega)) (fun u H x y Q rx ry kk => ⟨y1, y2, dp_rep _ _ _ rx h1, dp_rep _ _ _ ry h2, s1, s2, kk _ rfl⟩) q
theorem o2_neD {d1 d2 : D} {y1 y2 : PyData} (hr : RoomG k X.A) (h1 : pyD d1 = some y1) (h2 : pyD d2 = some y2) (s1 : SeqAt.shaped y1 = true) (s2 : SeqAt.shaped y2 = true) (q : post (.bl (!PyData.eqv y1 y2))) : O2 X W 0 (compareOp .NotEq) d1 d2 post xp :=
  o2_of (d := .bl (!PyData.eqv y1 y2)) (op_neD (by have := hr.room.un; omega)) (fun u H x y Q rx ry kk => ⟨y1, y2, dp_rep _ _ _ rx h1, dp_rep _ _ _ ry h2, s1, s2, kk _ rfl⟩) q
/-- repr(x), x a list or a tuple of such data -/
theorem oc_reprD {d : D} {y : PyData} (hr : RoomG k X.A) (hd : (∃ ds, d = .lst ds) ∨ ∃ ds, d = .tup ds) (h1 : pyD d = some y) (hs : y.showable = true) (hnd : y.hasDict = false) (hdep : y.depth ≤ 64) (hz : y.shown.length ≤ sizeLine) (q : post (.str y.shown)) : OC X W 0 (.builtin "repr") [d] post xp := fun u n H σ xs Q A hn rx kn kx => TC.mk fun pins s us I ru => by
  obtain ⟨x, e, r⟩ := rx.one
  subst e
  obtain ⟨v, ev, rv⟩ := Vals.one ru
  subst ev
  have hv : ∃ a, v = .ref a := by
    rcases hd with ⟨ds, rfl⟩ | ⟨ds, rfl⟩
    · obtain ⟨a, vs, e, _⟩ := r.lstE; subst e; exact ⟨a, rv⟩
    · obtain ⟨a, vs, e, _⟩ := r.tupE; subst e; exact ⟨a, rv⟩
  obtain ⟨a, ev⟩ := hv
  subst ev
  obtain ⟨as, rd⟩ := Dp.reads I y x (.ref a) (dp_rep d x y r h1) rv
  refine repr_of_reads' (h₀ := s.heap) rd hs (fun z => by rw [hnd] at z; cases z) hr.gd (by have := hr.room.un; omega) (fun _ _ z => z) (fun h' w tk hk => ?_) hz
  exact ⟨.str y.shown, H, I.kept hk, ⟨w, rfl⟩, kn.here (d := .str y.shown) A rfl q⟩
/-! ### weaker words, a cut -/
theorem dt_imp {pb pb' : Bool → Prop} (h : DT X W c e Γ pb xp) (hp : ∀ k, pb k → pb' k) : DT X W c e Γ pb' xp := fun u n H σ Q A hn kn kx => h u n H σ Q A hn (fun k H' e p q => kn k H' e p (hp k q)) kx
theorem db_cut {st : Stmt} {sts : List Stmt} (Mid : Gm → Prop) (h : DSt X W c1 st Γ { O with nx := Mid } xp) (h2 : ∀ Γ', Mid Γ' → DB X W c2 sts Γ' O xp) : DB X W (c1 + c2) (st :: sts) Γ O xp := fun u M H0 n H σ D B S hn k => by
  refine twss_of (pss_cons (tws_ps X st) (twss_pss X sts)) ?_
  refine h u M H0 n H σ { D with nx := TWSs X sts D } B S (by omega) ⟨fun Γ' σ' H' S' q => ?_, (k.le (by omega)).rt, (k.le (by omega)).bk, (k.le (by omega)).ct, (k.le (by omega)).xx⟩
  exact h2 Γ' q u M H0 (n + c1) H' σ' D B S' (by omega) (k.le (by omega))
theorem db_if {t : Expr} {as bs : List Stmt} {sts : List Stmt} {p : Pos} (h : DSt X W c1 (.If t as bs p) Γ { O with nx := fun Γ' => DB X W c2 sts Γ' O xp } xp) : DB X W (c1 + c2) (.If t as bs p :: sts) Γ O xp := db_cons h
/-! ### chains a op b op c -/
theorem opr_to {f : Value → Value → Sem Value} : OpR X f (fun x y H Q => ∀ σ, TO X σ f x y H Q) := fun pins s σ H x y v u Q I rx ry h => h σ pins s v u I rx ry
theorem KX.n {u : U} {n : Nat} {H : Hp} {σ : L2.St} : KX u n H σ XN W := fun _ _ _ _ _ _ _ _ z => z.elim
theorem de_chain {op op' : CmpOp} {cc : Expr} {c4 c5 : Nat} (h : DE X W c1 a Γ (fun d1 => DE X W c2 b Γ (fun d2 => ∃ k : Bool, O2 X W c3 (compareOp op) d1 d2 (fun d => d = .bl k) XN ∧ (k = true → DE X W c4 cc Γ (fun d3 => O2 X W c5 (compareOp op') d2 d3 post XN) xp) ∧ (k = false → post (.bl false))) xp) xp)
    (hm : lastMarks [op, op'] [b, cc] = false := by with_unfolding_all rfl) : DE X W (c1 + c2 + c3 + c4 + c5) (.Compare a [op, op'] [b, cc] pos) Γ post xp := fun u n H σ Q A hn kn kx => by
  refine tw_of (pe_chain opr_to opr_to (tw_pe X a) (tw_pe X b) (tw_pe X cc) hm) ?_
  refine h u n H σ _ A (by omega) (fun x d1 H1 e1 p1 r1 h1 => ?_) (kx.go Exp.refl (by omega))
  have A1 := A.toAl.step e1 p1
  refine h1 u (n + c1) H1 σ _ (A.step e1 p1) (by omega) (fun y d2 H2 e2 p2 r2 ⟨k, ho, ht, hf⟩ σ' => ?_) (kx.go e1 (by omega))
  have A2 := A1.step e2 p2
  refine ho u (n + c1 + c2) H2 σ' x y _ A2 (by omega) (r1.go A1 e2) r2 (fun z d3 H3 e3 p3 r3 ed => ?_) KX.n
  subst ed
  have A3 := A2.step e3 p3
  have e123 := (e1.trans e2).trans e3
  refine ⟨k, r3, ?_⟩
  cases k with
  | false => exact kn (.bl false) (.bl false) H3 e123 (p3.up (by omega)) rfl (hf rfl)
  | true =>
    refine ht rfl u (n + c1 + c2 + c3) H3 σ _ (((A.step e1 p1).step e2 p2).step e3 p3) (by omega) (fun w d4 H4 e4 p4 r4 h4 σ2 => ?_) (kx.go e123 (by omega))
    exact h4 u (n + c1 + c2 + c3 + c4) H4 σ2 y w Q (A3.step e4 p4) (by omega) ((r2.go A2 e3).go A3 e4) r4 (kn.go (e123.trans e4) (by omega)) KX.n
theorem dt_chain {op op' : CmpOp} {cc : Expr} {c4 c5 : Nat} {pb : Bool → Prop} (h : DE X W c1 a Γ (fun d1 => DE X W c2 b Γ (fun d2 => ∃ k : Bool, O2 X W c3 (compareOp op) d1 d2 (fun d => d = .bl k) XN ∧ (k = true → DE X W c4 cc Γ (fun d3 => O2 X W c5 (compareOp op') d2 d3 (PB pb) XN) xp) ∧ (k = false → pb false)) xp) xp)
    (hm : lastMarks [op, op'] [b, cc] = false := by with_unfolding_all rfl) : DT X W (c1 + c2 + c3 + c4 + c5) (.Compare a [op, op'] [b, cc] pos) Γ pb xp := fun u n H σ Q A hn kn kx => by
  refine twt_of (pt_chain opr_to opr_to (tw_pe X a) (tw_pe X b) (tw_pe X cc) hm) ?_
  refine h u n H σ _ A (by omega) (fun x d1 H1 e1 p1 r1 h1 => ?_) (kx.go Exp.refl (by omega))
  have A1 := A.toAl.step e1 p1
  refine h1 u (n + c1) H1 σ _ (A.step e1 p1) (by omega) (fun y d2 H2 e2 p2 r2 ⟨k, ho, ht, hf⟩ σ' => ?_) (kx.go e1 (by omega))
  have A2 := A1.step e2 p2
  refine ho u (n + c1 + c2) H2 σ' x y _ A2 (by omega) (r1.go A1 e2) r2 (fun z d3 H3 e3 p3 r3 ed => ?_) KX.n
  subst ed
  have A3 := A2.step e3 p3
  have e123 := (e1.trans e2).trans e3
  refine ⟨k, r3, ?_⟩
  cases k with
  | false => exact ⟨false, rfl, kn false H3 e123 (p3.up (by omega)) (hf rfl)⟩
  | true =>
    refine ht rfl u (n + c1 + c2 + c3) H3 σ _ (((A.step e1 p1).step e2 p2).step e3 p3) (by omega) (fun w d4 H4 e4 p4 r4 h4 σ2 => ?_) (kx.go e123 (by omega))
    refine h4 u (n + c1 + c2 + c3 + c4) H4 σ2 y w _ (A3.step e4 p4) (by omega) ((r2.go A2 e3).go A3 e4) r4 (fun z d5 H5 e5 p5 r5 ⟨k, ed, q⟩ => ?_) KX.n
    subst ed
    exact ⟨k, r5, kn k H5 ((e123.trans e4).trans e5) (p5.up (by omega)) q⟩
end
end Dx
-- DxM
namespace Dx
open PySem PySem.Spec PyProof.Rows L2
/-! ### the pen is made -/
def spPen (K : PySem.W.Frag) : Sp := fun vs H Q _ => ∃ (a : Addr) (ns : List Int), vs = [.ref a] ∧ SqL K H a (ns.map V.int) ∧ ∀ p c H', p ≠ c → H' p = some (.lst [.ref c, .int 0, .int 0]) → H' c = some (.lst ((ns.take 63).map V.int)) → Q (.ref p) H'
def spLaw (K : PySem.W.Frag) : Sp := fun vs H Q _ => ∃ (a : Addr) (ns : List Int), vs = [.ref a] ∧ SqL K H a (ns.map V.int) ∧ ns.length ≤ 63 ∧ (∀ z ∈ ns, Builtin.Int.intBits z ≤ 1048576) ∧ ∀ H', Q (.bl true) H'
theorem bits_lt {z : Int} (h : Builtin.Int.intBits z ≤ 1048576) : z.natAbs < 2 ^ (BB - 3) := by
  unfold Builtin.Int.intBits at h
  by_cases h0 : z = 0
  · subst h0; exact Nat.pow_pos (by decide)
  · rw [if_neg (by simpa using h0)] at h
    have h1 : z.natAbs < 2 ^ (z.natAbs.log2 + 1) := Nat.lt_log2_self
    refine Nat.lt_of_lt_of_le h1 (Nat.pow_le_pow_right (by decide) ?_)
    have : BB - 3 = 1048577 := rfl
    omega
theorem cut63 {ns : List Int} : cutV (ns.map V.int) none (some 63) = (ns.take 63).map V.int := by
  unfold cutV
  have h0 : HT.sIx (ns.map V.int).length 0 none = 0 := rfl
  have h1 : HT.sIx (ns.map V.int).length (ns.map V.int).length (some 63) = min 63 ns.length := by
    unfold HT.sIx
    simp
    try omega
  rw [h0, h1]
  simp [List.map_take]
  try omega
section
variable {P : Program} {w : World} {K : PySem.W.Frag} {mg : Str → Option Value} {base : Heap}
theorem pen_of {x y qual : Str} {st : Stmt} {f : Addr} {fd : FuncData} {p1 p2 p3 p4 p5 p6 p7 p8 p9 p10 : Pos} {j1 j2 j3} (F : Fun K x qual st f fd) (sc : FnScope [y] [y] (defScope st)) (hm : mg "list" = none)
    (hb : defBody st = [.Return (some (.List [.Call (.Name "list" p1) [.Subscript (.Name y p2) (.Slice none (some (.Constant (.int 63) j1 p3)) none p4) p5] [] p6, .Constant (.int 0) j2 p7, .Constant (.int 0) j3 p8] p9)) p10])
    (hd : (y == ("__debug__" : Str)) = false := by decide) (hcd : (y == ("__classdict__" : Str)) = false := by decide)
    (hg : ∀ (cdv : Value) (A : Around) (outer : List Env) (s : Shared) (H : Hp) (E : XK), Gl (CxB P w K mg base [y] qual st f cdv A outer s H E) "list" := by exact fun _ _ _ _ _ _ => rfl)
    (hv : ∀ (cdv : Value) (A : Around) (outer : List Env) (s : Shared) (H : Hp) (E : XK), Vis (CxB P w K mg base [y] qual st f cdv A outer s H E).env.scope y := by exact fun _ _ _ _ _ _ => Or.inl rfl)
    (hst : ∀ (cdv : Value) (A : Around) (outer : List Env) (s : Shared) (H : Hp) (E : XK), starEach [.Subscript (.Name y p2) (.Slice none (some (.Constant (.int 63) j1 p3)) none p4) p5] (CxB P w K mg base [y] qual st f cdv A outer s H E).env = (false, eval (.Subscript (.Name y p2) (.Slice none (some (.Constant (.int 63) j1 p3)) none p4) p5) (CxB P w K mg base [y] qual st f cdv A outer s H E).env) :: starEach [] (CxB P w K mg base [y] qual st f cdv A outer s H E).env := by exact fun _ _ _ _ _ _ => rfl) :
    FnG P w K mg base CX0 1 f fd [y] (spPen K) := by
  refine fnG_of F sc (fun vs H Q E ⟨a, ns, e, _⟩ => by rw [e]; rfl) (fun cdv A outer s H vs Q E hr ⟨a, ns, e, hS, q⟩ => ?_)
  rw [hb]
  refine ⟨_, pss_cons (ps_ret (pe_lst (pa_cons (pe_callTy call_list_of (hg cdv A outer s H E) hm (by decide +kernel : bootBuiltins "list" = some (.type "list")) (pa_cons (pe_slice sl_list (pe_var (i := 0) rfl (hv cdv A outer s H E) hd hcd) po_none (po_some pe_int)) pa_nil (hst cdv A outer s H E)) (by decide) (by decide) (hst cdv A outer s H E) (by rfl)) (pa_cons pe_int (pa_cons pe_int pa_nil (by rfl)) (by rfl)) (by rfl)))) pss_nil, ?_⟩
  subst e
  refine ⟨_, rfl, ?_⟩
  refine ⟨63, rfl, a, _, rfl, hS, fun l hl => ?_⟩
  refine ⟨l, _, rfl, .inl (SqL.of upd_same), fun c hc => ?_⟩
  refine ⟨(by show 3 ≤ sizeLine; decide), fun p hp => ?_⟩
  refine q p c _ (ne_of_none (a := c) upd_same hp).symm upd_same ?_
  rw [upd_ne (ne_of_none (a := c) upd_same hp), upd_same, cut63]
/-! ### the law's def: its first statement makes the pen, the rest walks in the pen's world -/
def GL (N : List Str) : Gm := .no :: .va .pen :: List.replicate (N.length - 2) .no
theorem law_of {x y pn z qual : Str} {st : Stmt} {f g : Addr} {fd gd : FuncData} {p1 p2 p3 p4 p5 : Pos} {N : List Str} {rest : List Stmt} {j k c : Nat} (F : Fun K x qual st f fd) (sc : FnScope N [y] (defScope st))
    (hb : defBody st = .Assign [.Name z p1] (.Call (.Name pn p2) [.Name y p3] [] p4) p5 :: rest) (hN : ∃ Nr, N = y :: z :: Nr)
    (G : FnG P w K mg base CX0 j g gd [y] (spPen K)) (hm : mg pn = some (.ref g)) (hk' : PySem.W.keepIn K (.ref g) = true) (hbi : Binds K gd [y] [])
    (hj : j ≤ k) (hc : c ≤ lim)
    (hrest : ∀ (cdv : Value) (A : Around) (outer : List Env) (s : Shared) (H : Hp) (E : XK), RoomG k (A.deeper (envOfC qual (defScope st) s.heap.objs.size f cdv)) → DB (CxB P w K mg base N qual st f cdv A outer s H E) WN c rest (GL N) { nx := fun _ => False, rt := fun d => d = .bl true } XN)
    (hd : (y == ("__debug__" : Str)) = false := by decide) (hcd : (y == ("__classdict__" : Str)) = false := by decide) (hdp : (pn == ("__debug__" : Str)) = false := by decide)
    (hg : ∀ (cdv : Value) (A : Around) (outer : List Env) (s : Shared) (H : Hp) (E : XK), Gl (CxB P w K mg base N qual st f cdv A outer s H E) pn := by exact fun _ _ _ _ _ _ => rfl)
    (hv : ∀ (cdv : Value) (A : Around) (outer : List Env) (s : Shared) (H : Hp) (E : XK), Vis (CxB P w K mg base N qual st f cdv A outer s H E).env.scope y := by exact fun _ _ _ _ _ _ => Or.inl rfl)
    (hl : ∀ (cdv : Value) (A : Around) (outer : List Env) (s : Shared) (H : Hp) (E : XK), (CxB P w K mg base N qual st f cdv A outer s H E).env.scope.names.lookup z = some .local ∨ (CxB P w K mg base N qual st f cdv A outer s H E).env.scope.names.lookup z = some .cell := by first | exact fun _ _ _ _ _ _ => Or.inl rfl | exact fun _ _ _ _ _ _ => Or.inr rfl)
    (hst : ∀ (cdv : Value) (A : Around) (outer : List Env) (s : Shared) (H : Hp) (E : XK), starEach [.Name y p3] (CxB P w K mg base N qual st f cdv A outer s H E).env = (false, eval (.Name y p3) (CxB P w K mg base N qual st f cdv A outer s H E).env) :: starEach [] (CxB P w K mg base N qual st f cdv A outer s H E).env := by exact fun _ _ _ _ _ _ => rfl)
    (hsw : ∀ (cdv : Value) (A : Around) (outer : List Env) (s : Shared) (H : Hp) (E : XK), swapsWith (.Call (.Name pn p2) [.Name y p3] [] p4) (some (.Name z p1)) p5.line (CxB P w K mg base N qual st f cdv A outer s H E).env = pure false := by exact fun _ _ _ _ _ _ => rfl) :
    FnG P w K mg base CX0 (k + 1) f fd [y] (spLaw K) := by
  refine fnG_of F sc (fun vs H Q E ⟨a, ns, e, _⟩ => by rw [e]; rfl) (fun cdv A outer s H vs Q E hr ⟨a, ns, e, hS, hl1, hbits, q⟩ => ?_)
  rw [hb]
  obtain ⟨Nr, hN'⟩ := hN
  have nd : (CxB P w K mg base N qual st f cdv A outer s H E).N.Nodup := sc.nd
  have i0 : (CxB P w K mg base N qual st f cdv A outer s H E).N[0]? = some y := by show N[0]? = _; rw [hN']; rfl
  have i1 : (CxB P w K mg base N qual st f cdv A outer s H E).N[1]? = some z := by show N[1]? = _; rw [hN']; rfl
  have pcall : PE (CxB P w K mg base N qual st f cdv A outer s H E) (.Call (.Name pn p2) [.Name y p3] [] p4) (fun σ H1 Q1 => ∃ v, σ[0]? = some (some v) ∧ spPen K [v] H1 Q1 E0) := ⟨fun pins s1 σ H1 Q1 I ⟨v, hv0, h⟩ => by
    refine wpAny_Call_Name_kw (ld_glob I (hg cdv A outer s H E) hm (PySem.W.callWith_K (h₀ := base) I.ok.mod.kin hk' (thn ((pa_cons (pe_var i0 (hv cdv A outer s H E) hd hcd) pa_nil (hst cdv A outer s H E)).run p4 pins s1 σ H1 (fun vs H2 => spPen K vs H2 Q1 E0) I ⟨v, hv0, h⟩) fun us s2 ⟨vs, H2, I2, r, q2⟩ => ⟨I2.kIn, ?_⟩) (hst cdv A outer s H E) (by rfl)) hdp)
    have hlen : us.length = 1 := by rw [← r.length]; exact G.len _ _ _ _ q2
    refine run_g G (hr.mono hj) (fun _ _ z => z.elim) I2 r ?_ q2
    have := hbi s2 us I2.kIn (by simpa using hlen)
    simpa using this⟩
  refine ⟨_, pss_cons (ps_set nd i1 (hl cdv A outer s H E) pcall (hsw cdv A outer s H E) (.inl rfl)) (twss_pss _ rest), ?_⟩
  subst e
  have est : L2.start N [V.ref a] = some (.ref a) :: none :: List.replicate Nr.length none := by
    rw [hN']; unfold L2.start; simp [List.replicate_succ]
  rw [est]
  refine ⟨.ref a, rfl, a, ns, rfl, hS, fun p cl H' hne hp hcl => ?_⟩
  have A0 : Al ⟨fun b => b = p, p, cl⟩ 0 H' := by
    refine ⟨rfl, fun z => hne z.symm, fun b hb => (by have hb : b = p := hb; rw [hb]; exact ⟨_, hp⟩), ns.take 63, 0, 0, hp, hcl, ?_, by decide, by decide, by decide, Nat.pow_pos (by decide), fun i hi => bits_lt (hbits i (List.mem_of_mem_take hi))⟩
    rw [List.length_take]; omega
  have At0 : At ⟨fun b => b = p, p, cl⟩ 0 H' (some (.ref a) :: some (.ref p) :: List.replicate Nr.length none) (GL N) := by
    have own0 : ∀ (i : Nat) (s : Sl), (GL N)[i]? = some s → ¬ s.own := fun i s g o => by
      have hm := List.mem_of_getElem? g
      unfold GL at hm
      rcases List.mem_cons.mp hm with h | h
      · subst h; exact o
      · rcases List.mem_cons.mp h with h | h
        · subst h; exact o
        · rw [List.eq_of_mem_replicate h] at o; exact o
    refine ⟨A0, by unfold GL; simp [hN'], fun i s g => ?_, fun i j si sj b hij g1 g2 o1 => absurd o1 (own0 i si g1)⟩
    unfold GL at g
    match i, g with
    | 0, g => have g : Sl.no = s := by simpa using g
              subst g; trivial
    | 1, g => have g : Sl.va .pen = s := by simpa using g
              subst g; exact ⟨.ref p, rfl, rfl⟩
    | i + 2, g =>
      have g : (List.replicate (N.length - 2) Sl.no)[i]? = some s := by simpa using g
      rw [List.eq_of_mem_replicate (List.mem_of_getElem? g)]; trivial
  have no0 : ∀ (i : Nat) (s : Sl), (GL N)[i]? = some s → ¬ s.own := fun i s g o => by
    have hm := List.mem_of_getElem? g
    unfold GL at hm
    rcases List.mem_cons.mp hm with h | h
    · subst h; exact o
    · rcases List.mem_cons.mp h with h | h
      · subst h; exact o
      · rw [List.eq_of_mem_replicate h] at o; exact o
  refine hrest cdv A outer s H E hr ⟨fun b => b = p, p, cl⟩ _ H' 0 H' _ _ A0.bs ⟨_, At0.s5 no0⟩ (by omega) ⟨fun Γ σ H2 _ z => z.elim, fun v d H2 _ _ r ed => ?_, fun _ _ _ _ z => z.elim, fun _ _ _ _ z => z.elim, fun _ _ _ _ _ _ _ _ _ z => z.elim⟩
  subst ed
  rw [show v = .bl true from r]
  exact q H2
end
/-! ### the end -/
/-- the law's promise at the heap behind the top (the kit's law_call, where the caller's guards are told) -/
theorem law_callG {P : Program} {w : World} {K : PySem.W.Frag} {mg mb : Str → Option Value} {k : Nat} {fa a : Addr} {fd : FuncData} {x : Str} {s1 : Shared} {vs : List Value} {ns : List Int}
    (kin : K.In s1.heap) (gl : s1.heap.Ns mainGlobals mg) (bl : s1.heap.Ns builtinsNs mb) (bb : ∀ y : Str, y ≠ "__name__" → mb y = bootBuiltins y) (nl : s1.heap.NoLimit) (g0 : s1.gens = #[])
    (ga : s1.heap.get? a = some { cls := .type "list", data := .seq vs.toArray }) (ia : IntsAre vs ns) (l63 : ns.length ≤ 63) (bits : ∀ z ∈ ns, Builtin.Int.intBits z ≤ 1048576) (rm : Room k callerA)
    (F : ∀ base : Heap, K.In base → base.Ns mainGlobals mg → FnG P w K mg base CX0 k fa fd [x] (spLaw K)) (bnd : ∀ (s : Shared) (u : Value), BindsTo s fd ⟨[u], []⟩ [(x, u)]) :
    codeAny (model P w) callerA (.call (.ref fa) ⟨[.ref a], []⟩) (fun r s' => r = .ok (.ret (.bool true)) ∧ OldK s1.heap s'.heap ∧ s'.os = s1.os ∧ AllBare s'.gens) s1 := by
  have rel := vals_ints ia
  have len := ia.length
  have main : ∀ H : Hp, (∀ b, H b = none ∨ ∃ o xs, H b = some (.frz o (.lst xs))) → SqL K H a (ns.map V.int) → HOk P w H s1.heap → (∀ b, H b ≠ none → b = a) → (H a ≠ none → K.lookup a = none) →
      codeAny (model P w) callerA (.call (.ref fa) ⟨[.ref a], []⟩) (fun r s' => r = .ok (.ret (.bool true)) ∧ OldK s1.heap s'.heap ∧ s'.os = s1.os ∧ AllBare s'.gens) s1 := by
    intro H only sq hok onlyA outK
    have noD : ∀ {b : Addr} {o : Obj} {es : Array DictEntry} {ep : Nat}, s1.heap.get? b = some o → o.data = .dict es ep → H b = none := by
      intro b o es ep e d
      rcases hq : H b with _ | u
      · rfl
      · have eb := onlyA b (by rw [hq]; simp)
        subst eb
        rw [ga] at e; cases e
        cases (show Data.seq vs.toArray _ = Data.dict es ep from d)
    have nsB : ∀ {b : Addr} {m : Str → Option Value}, s1.heap.Ns b m → (hidT s1.heap H).Ns b m := by
      rintro b m ⟨o, es, ep, e, d, r⟩
      exact ⟨o, es, ep, hidT_get e (noD e d), d, r⟩
    have kinB : K.In (hidT s1.heap H) := by
      intro b o e
      refine hidT_get (kin b o e) ?_
      rcases hq : H b with _ | u
      · rfl
      · have eb := onlyA b (by rw [hq]; simp)
        subst eb
        rw [outK (by rw [hq]; simp)] at e; cases e
    obtain ⟨mc, n1, n2⟩ := nl
    have md : Mod K mg (hidT s1.heap H) := ⟨kinB, nsB gl, ⟨mb, nsB bl, bb⟩, ⟨mc, nsB n1, n2⟩⟩
    have env : Env0 P w K mg (hidT s1.heap H) callerA [] s1 H := by
      refine ⟨rfl, md, fun b o e => of_hidT e, Nat.le_of_eq (hidT_size _ _), trivial, fun b hb => ?_, hok, .of_eq g0⟩
      exact absurd (show b ∈ ([] : List Addr) from hb) (by simp)
    have go := (F _ kinB (nsB gl)).go callerA [] s1 H ⟨[.ref a], []⟩ [.ref a] [.ref a] (fun v _ => v = .bl true) E0 ⟨rm, rfl⟩ env (bnd s1 (.ref a)) (.cons rfl .nil) ⟨a, ns, rfl, sq, l63, bits, fun _ => rfl⟩
    refine codeAny_mono go fun r s' h => ?_
    match r, h with
    | .error e, h => exact h.elim
    | .ok .next, h => exact False.elim h
    | .ok .brk, h => exact False.elim h
    | .ok .cont, h => exact False.elim h
    | .ok (.ret u), h =>
      obtain ⟨v, H', os, bare, un, hok', r', ev⟩ := h
      have ev : v = .bl true := ev
      subst ev
      have eu : u = Value.bool true := r'
      subst eu
      refine ⟨rfl, OldK.of_keep fun b o e => ?_, os, bare⟩
      rcases only b with q | ⟨ob, xs, q⟩
      · refine un.keep b o e q (fun z => ?_) (by simp)
        exact absurd (show b ∈ ([] : List Addr) from z) (by simp)
      · have t1 := (hok b _ q).1
        have t2 := (hok' b _ (un.frzs b ob _ q)).1
        rw [e] at t1; cases t1
        exact t2
  have l1 : ns.length ≤ sizeLine := Nat.le_trans l63 (by decide)
  rcases hk : K.lookup a with _ | o
  · let H1 : Hp := fun b => if b = a then some (.frz { cls := .type "list", data := .seq vs.toArray } (.lst (ns.map V.int))) else none
    have at1 : H1 a = some (.frz { cls := .type "list", data := .seq vs.toArray } (.lst (ns.map V.int))) := if_pos rfl
    have off : ∀ b, b ≠ a → H1 b = none := fun b hb => if_neg hb
    refine main H1 (fun b => ?_) (.inl (.inr ⟨_, at1⟩)) (fun b u z => ?_) (fun b z => ?_) fun _ => hk
    · by_cases hb : b = a
      · subst hb; exact .inr ⟨_, _, at1⟩
      · exact .inl (off b hb)
    · by_cases hb : b = a
      · subst hb
        rw [at1] at z; cases z
        exact ⟨ga, by rw [List.length_map]; exact l1, vs, _, rel, ga⟩
      · rw [off b hb] at z; cases z
    · exact Classical.byContradiction fun hb => z (off b hb)
  · have e := kin a o hk
    rw [ga] at e
    cases e
    refine main (fun _ => none) (fun _ => .inl rfl) (.inr ⟨_, vs.toArray, _, hk, rfl, rfl, rfl, ?_, by simpa using rel⟩) (fun b u z => ?_) (fun b z => absurd rfl z) fun z => absurd rfl z
    · rw [List.size_toArray, len]; exact l1
    · cases (show (none : Option HO) = some u from z)
theorem walkG {l : PySem.W.OpenLaw} {k : Nat} {q : Program} {loose : List Str} {XP : (Str → Option Value) → Heap → Prop} {YP : World → Heap → Prop} {d : DefRec} {K : Params → PySem.W.Frag} {x : Str}
    (most : l.most = some 63) (dfl : d.params.defaults = []) (rm : Room k callerA) (hY : ∀ (w : World) (h : Heap), YP w h → (K w.params).In h)
    (F : ∀ (w : World) (mg : Str → Option Value) (fa : Addr) (h : Heap), (K w.params).In h → h.Ns mainGlobals mg → mg d.name = some (.ref fa) →
      ∃ fd : FuncData, (∀ (s : Shared) (u : Value), BindsTo s fd ⟨[u], []⟩ [(x, u)]) ∧ ∀ base : Heap, (K w.params).In base → base.Ns mainGlobals mg → FnG l.prog w (K w.params) mg base CX0 k fa fd [x] (spLaw (K w.params))) :
    PySem.W.WalkO q loose XP YP l.row.toRowW d [] (fun f vs => PySem.call f vs) := by
  refine Att.attach_callB most dfl fun w s0 s1 mg mb fa o pm cd doc a vs ns G Y ho hd hcd hmg hobj hints hlen hbits hg => ?_
  have kin := hY w _ Y
  obtain ⟨fd, b1, b2⟩ := F w mg fa _ kin G.T.g hmg
  exact law_callG kin G.T.g G.T.b G.T.builtins G.T.nolimit hg hobj hints hlen hbits rm b2 b1
end Dx
-- DxN
namespace Dx
open PySem PySem.Spec PyProof.Rows L2
/-! ### positional promises: defs with a star -/
def FnP (P : Program) (w : World) (K : PySem.W.Frag) (mg : Str → Option Value) (base : Heap) (CX : CXT) (k : Nat) (f : Addr) (sp : Sp) : Prop :=
  ∀ (A : Around) (outer : List Env) (s : Shared) (H : Hp) (us : List Value) (vs : List V) (Q : VK) (E : XK), RoomG k A → Env0 P w K mg base A outer s H → Vals vs us → sp vs H Q E →
    codeAny (model P w) A (.call (.ref f) ⟨us, []⟩) (CR CX outer P w H s Q E) s
/-- of an __init__ with a star parameter -/
def spIS (C : Addr) (c : Nat) (S : SpI) : Sp := fun vs H Q _ => ∃ u n x dx ds us post, vs = .ref x :: us ∧ Al u n H ∧ ¬ u.F x ∧ x ≠ u.cl ∧ n + c ≤ lim ∧ H x = some (.ins C dx []) ∧ RepL (u.more x) H ds us ∧ ds.length ≤ sizeLine ∧ S ds post ∧
  ∀ H' fv fs, ExM (fun a => a = u.p ∨ a = x) H H' → Pen u (n + c) H' → H' x = some (.ins C dx fv) → RepF (u.more x) H' fs fv → post fs → Q .non H'
section
variable {P : Program} {w : World} {K : PySem.W.Frag} {mg : Str → Option Value} {base : Heap}
theorem initS_of {C : Addr} {qual self pv : Str} {st : Stmt} {f : Addr} {fd : FuncData} {N : List Str} {k c : Nat} {S : SpI} (F : Fun K "__init__" qual st f fd) (sc : FnScope N [self, pv] (defScope st)) (hle : 2 ≤ N.length)
    (h0 : ∀ (kV doc pm : Value) (an : Option Addr) (cdv ct a : Value), bindArgs (PySem.W.fnOf "__init__" qual (defArgs st) (defBody st) (defScope st) .none kV doc pm an cdv ct) ⟨[a], []⟩ = (newTuple [] >>= fun t => pure [(self, a), (pv, t)]))
    (h1 : ∀ (kV doc pm : Value) (an : Option Addr) (cdv ct a r : Value) (rs : List Value), bindArgs (PySem.W.fnOf "__init__" qual (defArgs st) (defBody st) (defScope st) .none kV doc pm an cdv ct) ⟨a :: r :: rs, []⟩ = (newTuple (r :: rs) >>= fun t => pure [(self, a), (pv, t)]))
    (hb : ∀ (cdv : Value) (A : Around) (outer : List Env) (s : Shared) (H : Hp) (E : XK), RoomG k (A.deeper (envOfC qual (defScope st) s.heap.objs.size f cdv)) → ∀ (x dx : Addr) (ds : List D) (post : List (Str × D) → Prop), ds.length ≤ sizeLine → S ds post →
      DB (CxB P w K mg base N qual st f cdv A outer s H E) WN c (defBody st) (.ins x dx C [] :: G0 (N.drop 1) [.tup ds]) { nx := fun Γ => ∃ fs, Γ[0]? = some (.ins x dx C fs) ∧ post fs, rt := fun _ => False } XN) : FnP P w K mg base CX0 (k + 1) f (spIS C c S) := by
  obtain ⟨oc, od, kV, doc, pm, an, cdv, ct, osl, rfl, lk, hcd⟩ := F.ex
  intro A outer s H us vs Q E hr e0 r ⟨u, n, x, dx, ds, us', post, ev, A0, nx, ncl, hn, hx, rl, hz, hS, kn⟩
  subst ev
  cases r with
  | cons ra rr =>
  rename_i ua ur
  have hn0 : H s.heap.objs.size = Option.none := e0.hok.fresh (Nat.le_refl _)
  have hz1 : us'.length ≤ sizeLine := by rw [rl.length]; exact hz
  have hz2 : ur.length ≤ sizeLine := by rw [← rr.length]; exact hz1
  refine StX.run_bnd lk hcd sc hr.room e0 (G := fun xs H2 => ∃ p, H p = Option.none ∧ xs = [V.ref x, V.ref p] ∧ H2 = upd H p (.tup us')) (fun A' Ex Q' h => ?_) fun s2 H2 xs ⟨p, hp, ex, eH⟩ hr' => ?_
  · have hbind : bindArgs (PySem.W.fnOf "__init__" qual (defArgs st) (defBody st) (defScope st) .none kV doc pm an cdv ct) ⟨ua :: ur, []⟩ = (newTuple ur >>= fun t => pure [(self, ua), (pv, t)]) := by
      cases ur with
      | nil => exact h0 kV doc pm an cdv ct ua
      | cons a rs => exact h1 kV doc pm an cdv ct ua a rs
    rw [hbind]
    refine wpAny_bind (wpAny_newTuple (wpAny_pure ?_) hz2)
    have new : ObjOk P w (upd H s.heap.objs.size (.tup us')) (s.heap.push ({ cls := .type "tuple", data := .seq ur.toArray } : Obj)) s.heap.objs.size (.tup us') := ⟨hz1, ur, rr, ⟨_, Heap.get?_push_size _ rfl, rfl, _, rfl⟩⟩
    have un := StX.un_laid (fs := frs outer) (s := s) (o := ({ cls := .type "tuple", data := .seq ur.toArray } : Obj)) (u := .tup us') hn0
    exact h _ _ [V.ref x, V.ref s.heap.objs.size] [ua, Value.ref s.heap.objs.size] (StX.env0_laid e0 new) un rfl (fun e s' z => z.elim) (.cons ra (.cons rfl .nil)) rfl ⟨_, hn0, rfl, rfl⟩
  · subst ex eH
    have kp : ∀ a o, H a = some o → upd H p (.tup us') a = some o := fun a o g => by rw [upd_ne (ne_of_none g hp)]; exact g
    have A1 : Al u n (upd H p (.tup us')) := A0.step (Exp.new hp) (A0.newp hp)
    have px : p ≠ x := (ne_of_none hx hp).symm
    obtain ⟨t, h1, h2⟩ := init_bd (P := P) (w := w) (K := K) (mg := mg) (base := base) (C := C) (qual := qual) (st := st) (f := f) (N := N) (ar := 2) (c := c) (S := fun es q => ∃ ds, es = [.tup ds] ∧ ds.length ≤ sizeLine ∧ S ds q) (cdv := cdv) (A := A) (outer := outer) (s := s2) (H := upd H p (.tup us')) (vs := [V.ref x, V.ref p]) (Q := Q) (E := E) hle
      (fun cdv A outer s H E hr x dx es post hl ⟨ds, ee, hz, hS⟩ => by subst ee; exact hb cdv A outer s H E hr x dx ds post hz hS) ⟨hr', hr.gd⟩
      ⟨u, n, x, dx, [.tup ds], [V.ref p], post, rfl, A1, nx, ncl, hn, kp _ _ hx, RepL.cons ⟨p, us', rfl, fun z => z.elim (fun z => A0.notF hp z) px, upd_same, RepL.mono (u := u.more x) (u' := u.more x) (fun a o f g => kp a o g) rfl (fun _ _ f _ => f) _ _ rl⟩ RepL.nil, rfl, ⟨ds, rfl, hz, hS⟩, fun H' fv fs ee p' g rf q => kn H' fv fs ⟨fun a o na g => ee.1 a o na (kp a o g), fun a o g => ee.2 a o (kp a o g)⟩ p' g rf q⟩
    exact ⟨t, h1.nox, h2⟩
end
section
variable {X : Cx} {CX : CXT} {k : Nat} {f C : Addr} {sp : Sp} {pins : List (Addr × Obj)} {σ : L2.St} {H : Hp} {s : Shared} {Q : VK} {E : XK}
theorem make_p {us : List Value} {vs : List V} (M : Mk X.K C f) (F : FnP X.prog X.w X.K X.mg X.base CX k f sp) (hr : RoomG (k + 1) X.A) (I : Inv X pins σ H s)
    (hx : ∀ s2 H2 e s', Inv X pins σ H2 s2 → CX X.stack H2 s2 E e s' → X.xe e s') (r : Vals vs us)
    (h : ∀ x dx, H x = none → H dx = none → dx ≠ x → sp (.ref x :: vs) (upd (upd H dx (.own x)) x (.ins C dx [])) (fun v H2 => v = .non ∧ Q (.ref x) H2) E) :
    wpAny (model X.prog X.w) X.A (call (.ref C) us) (EP X pins σ Q) X.xe s := by
  have hq := h (s.heap.objs.size + 1) s.heap.objs.size (I.hok.fresh (Nat.le_succ _)) (I.hok.fresh (Nat.le_refl _)) (Nat.ne_of_lt (Nat.lt_succ_self _))
  have J := Inv.made (C := C) I
  refine wpAny_call (make_map (f := f) I.kIn M.makes M.init (beq_iff_eq.mp M.fn) (codeAny_mono (F _ X.stack _ _ (.ref (s.heap.objs.size + 1) :: us) (.ref (s.heap.objs.size + 1) :: vs) _ E (hr.make C us []) (J.env0.make C us []) (.cons rfl r) hq) fun r' s' hq' => ?_))
  have hh := back_g (fun e => hx _ _ e s' J) J hq'
  cases r' with
  | error e => exact hh
  | ok fl => cases fl with
    | next => exact hh.elim
    | brk => exact hh.elim
    | cont => exact hh.elim
    | ret u =>
      obtain ⟨v, H', J2, rv, ev, q⟩ := hh
      subst ev
      exact ⟨rv, .ref (s.heap.objs.size + 1), H', J2, rfl, q⟩
end
/-- a class with a star parameter that may be made by its name -/
structure MkS (P : Program) (w : World) (K : PySem.W.Frag) (mg : Str → Option Value) (base : Heap) (k : Nat) (x : Str) (C : Addr) (c : Nat) (S : SpI) : Prop where
  ex : ∃ (f : Addr), Mk K C f ∧ FnP P w K mg base CX0 k f (spIS C c S) ∧ mg x = some (.ref C)
section
variable {X : Cx} {W : WX} {c c1 c2 c3 : Nat} {Γ : Gm} {post : D → Prop} {xp : XP} {a b e : Expr} {pos : Pos} {k j ar : Nat} {C : Addr}
theorem madeS_ok {u : U} {n : Nat} {H : Hp} {ds : List D} {vs : List V} {x dx : Addr} {Q : VK} {S : SpI} (A : Al u n H) (hn : n + c2 ≤ lim) (r : RepL u H ds vs) (hl : ds.length ≤ sizeLine) (hS : S ds (fun fs => post (.obj C fs))) (kn : KN u (n + c2) H post Q) (hx : H x = none) (hdx : H dx = none) (hne : dx ≠ x) :
    spIS C c2 S (.ref x :: vs) (upd (upd H dx (.own x)) x (.ins C dx [])) (fun v H2 => v = .non ∧ Q (.ref x) H2) E0 := by
  obtain ⟨u', n', x', dx', ds', us', post', ev, a1, a2, a3, a4, a5, a6, a7, a8, a9⟩ := made_ok (ar := ds.length + 1) (S := S) A hn r rfl hS kn hx hdx hne
  have hl' : ds'.length = ds.length := by omega
  exact ⟨u', n', x', dx', ds', us', post', ev, a1, a2, a3, a4, a5, a6, by omega, a8, a9⟩
theorem da_star {es : List Expr} {pa : List D → Prop} {p : Pos} (h : DE X W c1 e Γ (fun d => ∃ ds, (d = .tup ds ∨ d = .lst ds) ∧ DA X W c2 es Γ (fun es => pa (ds ++ es)) xp) xp) (hs : starEach (.Starred e p :: es) X.env = (true, eval e X.env) :: starEach es X.env := by rfl) : DA X W (c1 + c2) (.Starred e p :: es) Γ pa xp := fun u n H σ Q A hn kn kx => by
  refine twa_of (StX.pa_star (tw_pe X e) (twa_pa X es) hs) ?_
  refine h u n H σ _ A (by omega) (fun v d H1 e1 p1 r1 ⟨ds, hd, h1⟩ => ?_) (kx.go Exp.refl (by omega))
  have A1 := A.toAl.step e1 p1
  have fin : ∀ vs, RepL u H1 ds vs → TWA X es σ H1 (fun ys H2 => Q (vs ++ ys) H2) := fun vs rl =>
    h1 u (n + c1) H1 σ _ (A.step e1 p1) (by omega) (fun ws es' H2 e2 p2 r2 q => kn (vs ++ ws) (ds ++ es') H2 (e1.trans e2) (p2.up (by omega)) ((rl.go A1 e2).append r2) q) (kx.go e1 (by omega))
  rcases hd with rfl | rfl
  · obtain ⟨q, vs, e3, f3, g3, rl⟩ := r1.tupE
    exact ⟨q, vs, e3, .inl (SqT.of g3), fin vs rl⟩
  · obtain ⟨q, vs, e3, f3, g3, rl⟩ := r1.lstE
    exact ⟨q, vs, e3, .inr (SqL.of g3), fin vs rl⟩
theorem makeS_d {f : Addr} {S : SpI} {pins : List (Addr × Obj)} {σ : L2.St} {H : Hp} {s : Shared} {Q : VK} {us : List Value} {vs : List V} (F : FnP X.prog X.w X.K X.mg X.base CX0 k f (spIS C c2 S)) (hr : RoomG (k + 1) X.A) (M : Mk X.K C f) (I : Inv X pins σ H s) (r : Vals vs us)
    (h : ∀ x dx, H x = none → H dx = none → dx ≠ x → spIS C c2 S (.ref x :: vs) (upd (upd H dx (.own x)) x (.ins C dx [])) (fun v H2 => v = .non ∧ Q (.ref x) H2) E0) : wpAny (model X.prog X.w) X.A (call (.ref C) us) (EP X pins σ Q) X.xe s :=
  make_p M F hr I (fun _ _ _ _ _ z => z.elim) r h
/-- C() -/
theorem de_makeS0 {x : Str} {p : Pos} {S : SpI} (F : MkS X.prog X.w X.K X.mg X.base k x C c2 S) (hr : RoomG j X.A) (hk : k + 1 ≤ j) (h : S [] (fun fs => post (.obj C fs))) (hg : Gl X x := by rfl) (hdb : (x == ("__debug__" : Str)) = false := by decide) : DE X W c2 (.Call (.Name x p) [] [] pos) Γ post xp := fun u n H σ Q A hn kn kx => by
  obtain ⟨f, M, F, hm⟩ := F.ex
  refine TW.mk fun pins s I => ?_
  exact wpAny_Call_Name_kw (ld_glob I hg hm (PySem.W.callWith_K0 I.kIn M.kp (makeS_d (vs := []) (us := []) F (hr.mono hk) M I .nil fun x' dx hx hdx hne => madeS_ok (vs := []) A.toAl hn RepL.nil (Nat.zero_le _) h kn hx hdx hne)) hdb)
/-- C(e, ..) without a star -/
theorem de_makeS {x : Str} {p : Pos} {es : List Expr} {S : SpI} (F : MkS X.prog X.w X.K X.mg X.base k x C c2 S) (hr : RoomG j X.A) (hk : k + 1 ≤ j) (h : DA X W c1 (e :: es) Γ (fun ds => ds.length ≤ sizeLine ∧ S ds (fun fs => post (.obj C fs))) xp) (hg : Gl X x := by rfl) (hdb : (x == ("__debug__" : Str)) = false := by decide)
    (he : starEach (e :: es) X.env = (false, eval e X.env) :: starEach es X.env := by rfl) (hpl : (backTo pos (starEach es X.env)).any (·.1) = false := by rfl) : DE X W (c1 + c2) (.Call (.Name x p) (e :: es) [] pos) Γ post xp := fun u n H σ Q A hn kn kx => by
  obtain ⟨f, M, F, hm⟩ := F.ex
  refine TW.mk fun pins s I => ?_
  refine wpAny_Call_Name_kw (ld_glob I hg hm (PySem.W.callWith_K (h₀ := X.base) I.ok.mod.kin M.kp (thn (h u n H σ (fun vs H1 => ∀ x' dx, H1 x' = none → H1 dx = none → dx ≠ x' → spIS C c2 S (.ref x' :: vs) (upd (upd H1 dx (.own x')) x' (.ins C dx [])) (fun v H2 => v = .non ∧ Q (.ref x') H2) E0) A (by omega) (fun vs ds H1 e1 p1 r1 ⟨hl, hS⟩ x' dx hx hdx hne => madeS_ok (A.toAl.step e1 p1) (by omega) r1 hl hS (kn.go e1 (by omega)) hx hdx hne) (kx.go Exp.refl (by omega)) pos pins s I) fun us s1 ⟨vs, H1, I1, r, q⟩ => ⟨I1.kIn, ?_⟩) he hpl) hdb)
  exact makeS_d F (hr.mono hk) M I1 r q
/-- C(*e) -/
theorem de_makeS1 {x : Str} {p sp_ : Pos} {S : SpI} (F : MkS X.prog X.w X.K X.mg X.base k x C c2 S) (hr : RoomG j X.A) (hk : k + 1 ≤ j) (h : DE X W c1 e Γ (fun d => ∃ ds, (d = .tup ds ∨ d = .lst ds) ∧ ds.length ≤ sizeLine ∧ S ds (fun fs => post (.obj C fs))) xp) (hg : Gl X x := by rfl) (hdb : (x == ("__debug__" : Str)) = false := by decide)
    (hst : starEach [.Starred e sp_] X.env = [(true, eval e X.env)] := by rfl) : DE X W (c1 + c2) (.Call (.Name x p) [.Starred e sp_] [] pos) Γ post xp := fun u n H σ Q A hn kn kx => by
  obtain ⟨f, M, F, hm⟩ := F.ex
  refine TW.mk fun pins s I => ?_
  refine wpAny_Call_Name_kw (ld_glob I hg hm (PySem.W.callWith_S (h₀ := X.base) I.ok.mod.kin M.kp (thn (h u n H σ (fun y H1 => ∃ a xs, y = V.ref a ∧ (SqT X.K H1 a xs ∨ SqL X.K H1 a xs) ∧ ∀ x' dx, H1 x' = none → H1 dx = none → dx ≠ x' → spIS C c2 S (.ref x' :: xs) (upd (upd H1 dx (.own x')) x' (.ins C dx [])) (fun v H2 => v = .non ∧ Q (.ref x') H2) E0) A (by omega) (fun v d H1 e1 p1 r1 ⟨ds, hd, hl, hS⟩ => ?_) (kx.go Exp.refl (by omega)) pins s I) fun v s1 ⟨y, H1, I1, ry, a, xs, ey, hxs, q⟩ => ?_) hst) hdb)
  · rcases hd with rfl | rfl
    · obtain ⟨q, vs, e3, f3, g3, rl⟩ := r1.tupE
      exact ⟨q, vs, e3, .inl (SqT.of g3), fun x' dx hx hdx hne => madeS_ok (A.toAl.step e1 p1) (by omega) rl hl hS (kn.go e1 (by omega)) hx hdx hne⟩
    · obtain ⟨q, vs, e3, f3, g3, rl⟩ := r1.lstE
      exact ⟨q, vs, e3, .inr (SqL.of g3), fun x' dx hx hdx hne => madeS_ok (A.toAl.step e1 p1) (by omega) rl hl hS (kn.go e1 (by omega)) hx hdx hne⟩
  · subst ey
    obtain rfl : v = Value.ref a := ry
    exact StX.star_any I1 hxs fun us s2 I2 rv => ⟨I2.kIn, makeS_d F (hr.mono hk) M I2 rv q⟩
/-! ### C.m(e, ..), m a staticmethod -/
structure StD (P : Program) (w : World) (K : PySem.W.Frag) (mg : Str → Option Value) (base : Heap) (k : Nat) (C : Addr) (m : Str) (ar c : Nat) (S : SpD) : Prop where
  ex : ∃ (p f : Addr) (fd : FuncData) (ps : List Str) (mc : Value) (rest : List Value), ClX.CRead K C mc ∧ PySem.W.findCls K (.ref C) mc m = some (.get (.builtin "staticmethod.__get__") (.ref p) .none (.ref C)) ∧ PySem.W.recIn K p "staticmethod" = some (.ref f :: rest) ∧
    PySem.W.keepIn K (.ref f) = true ∧ FnG P w K mg base CX0 k f fd ps (spN ar c S) ∧ Binds K fd ps []
theorem de_static {m : Str} {o : Expr} {apos : Pos} {es : List Expr} {S : SpD} {pl : Sem Bool} (F : StD X.prog X.w X.K X.mg X.base k C m ar c3 S) (hr : RoomG j X.A) (hk : k ≤ j) (h : DE X W c1 o Γ (fun d => d = .ref C ∧ DA X W c2 (e :: es) Γ (fun ds => ds.length = ar ∧ S ds post) xp) xp)
    (hst : starEach (e :: es) X.env = (false, eval e X.env) :: starEach es X.env := by rfl) (hpl : (backTo pos (starEach es X.env)).any (·.1) = false := by rfl)
    (ht : eval (.Call (.Attribute o m apos) (e :: es) [] pos) X.env = (do let ov ← eval o X.env; standAt apos.atName; let (f, first) ← holding [ov] (getMethod ov m pl); callWith pos f first (backTo pos (starEach (e :: es) X.env)) (backToKw pos (keywordEach [] X.env))) := by rfl) :
    DE X W (c1 + c2 + c3) (.Call (.Attribute o m apos) (e :: es) [] pos) Γ post xp := fun u n H σ Q A hn kn kx => by
  obtain ⟨p, f, fd, ps, mc, rest, hrd, hfc, hrc, hkp, F, hb⟩ := F.ex
  refine TW.mk fun pins s I => ?_
  refine PySem.W.methodCall_KW (pl := pl) (thn (h u n H σ (fun x H1 => x = .ref C ∧ ∀ s1, Inv X pins σ H1 s1 → wpAny (model X.prog X.w) X.A (getMethod (.ref C) m pl) (fun fx s₂ => wpAny (model X.prog X.w) X.A (callWith pos fx.1 fx.2 (backTo pos (starEach (e :: es) X.env)) (backToKw pos (keywordEach [] X.env))) (EP X pins σ Q) X.xe s₂) X.xe s1) A (by omega) (fun v d H1 e1 p1 r1 ⟨ed, h1⟩ => ?_) (kx.go Exp.refl (by omega)) pins s I) fun v s1 ⟨x, H1, I1, rx, ex, q⟩ => ?_) ht
  · subst ed
    refine ⟨r1, fun s1 I1 => ?_⟩
    refine PySem.W.method_cls I1.kIn hrd.ga (PySem.W.cls_bind I1.kIn hrd.rd hfc (wpAny_call (PySem.W.sm_get (s := { s1 with toks := s1.toks + 1 }) I1.kIn hrc (PySem.W.handed_on rfl ?_))))
    have I2 : Inv X pins σ H1 { s1 with toks := s1.toks + 1 } := I1.tok _
    refine PySem.W.callWith_K (first := []) (h₀ := X.base) I.ok.mod.kin hkp (thn (h1 u (n + c1) H1 σ (fun vs H2 => spN ar c3 S vs H2 Q E0) (A.step e1 p1) (by omega) (fun vs ds H2 e2 p2 r2 ⟨hl2, hS⟩ => ?_) (kx.go e1 (by omega)) pos pins _ I2) fun us s2 ⟨vs, H2, I2, r, q⟩ => ⟨I2.kIn, ?_⟩) hst hpl
    · exact ⟨u, n + c1 + c2, ds, post, (A.toAl.step e1 p1).step e2 p2, by omega, r2, hl2, hS, kn.go (e1.trans e2) (by omega)⟩
    · have hlen : us.length = ps.length := by rw [← r.length]; exact F.len _ _ _ _ q
      refine run_g F (hr.mono hk) (fun _ _ z => z.elim) I2 r ?_ q
      simpa using hb s2 us I2.kIn (by simpa using hlen)
  · subst ex
    obtain rfl : v = Value.ref C := rx
    exact q s1 I1
end
end Dx
-- DxO
namespace PySem.W
open PySem PySem.Calls PyProof.Rows
section
variable {prog : Program} {w : World} {A : Around} {E : Value → Shared → Prop} {s : Shared} {K : Frag} {x y C L f : Addr} {h₀ : Heap} {m : Str → Option Value} {ox oy : Obj} {od oe : Option Obj} {nm T : String}
/-- x op y, both of one own class -/
theorem dx_bin_same {op : Operator} {Q : Value → Shared → Prop} (F : Fr h₀ L s.heap m) (X₀ : K.In h₀) (I : InstAt s.heap x ox C od) (J : InstAt s.heap y oy C oe) (hc : selfFirst K C = true)
    (hs : findIn K (.ref C) (PySem.dunder op.info.2) = some (some (.ref f))) (hf : isFn K (.ref f) = true)
    (h : wpAny (model prog w) A (call (.ref f) [.ref x, .ref y]) (CmpBack Q) E s) : wpAny (model prog w) A (binaryOp op (.ref x) (.ref y)) Q E s := by
  have X := X₀.keeps F.keep
  obtain ⟨cd, rest, hcd, hm⟩ := ksp_first hc
  rcases hi : op.info with ⟨sym, nm'⟩
  rw [hi] at hs
  dsimp only at hs
  have one := ksp_try X I hs hf h
  obtain ⟨hh, g, d, tt, os⟩ := s
  have L1 : Looks (model prog w) hh (typeOf (.ref x)) (.ref C) := I.type
  have L2 : Looks (model prog w) hh (typeOf (.ref y)) (.ref C) := J.type
  have L3 : Looks (model prog w) hh (fillsNumberSlot (.ref C) nm') true := fills_K X hcd hm hs
  simp only [binaryOp, hi]
  refine wpAny_holding (wpAny_bind ?_)
  unfold binaryOp1
  refine wpAny_bind (L1.at (wpAny_bind (L2.at (wpAny_bind (L3.at ?_)))))
  simp only [beq_self_eq_true, if_true]
  ksp_lk
  refine wpAny_mono one (fun r s' hr' => ?_) fun _ _ e => e
  obtain ⟨v, rfl, hq⟩ := hr'
  ksp_lk
  exact hq
end
end PySem.W
namespace Dx
open PySem PySem.Spec PyProof.Rows L2
/-- an instance of an own class on the left, a builtin's instance on the right -/
structure OpT (K : PySem.W.Frag) (C : Addr) (nm T : String) : Prop where
  first : PySem.W.selfFirst K C = true
  rv : (match PySem.W.findIn K (.ref C) (dunderR nm) with | some none => true | some (some (.ref _)) => true | _ => false) = true
  t1 : (PySem.W.findIn K (.type T) (PySem.dunder nm)).isSome = true
  t2 : (PySem.W.findIn K (.type T) (dunderR nm)).isSome = true
  sub : PySem.W.subIn K (.type T) (.ref C) = some false
theorem OpT.rv' {K : PySem.W.Frag} {C : Addr} {nm T : String} (O : OpT K C nm T) : ∃ rc, PySem.W.findIn K (.ref C) (dunderR nm) = some rc ∧ (rc = none ∨ ∃ g : Addr, rc = some (.ref g)) := by
  have h := O.rv
  cases e : PySem.W.findIn K (.ref C) (dunderR nm) with
  | none => rw [e] at h; cases h
  | some o =>
    cases o with
    | none => exact ⟨_, rfl, .inl rfl⟩
    | some v => rw [e] at h; cases v <;> first | cases h; done | exact ⟨_, rfl, .inr ⟨_, rfl⟩⟩
section
variable {X : Cx} {W : WX} {c c1 c2 c3 : Nat} {Γ : Gm} {post : D → Prop} {xp : XP} {a b e : Expr} {pos : Pos} {k j ar : Nat} {C : Addr}
theorem rep_nn {u : U} {H : Hp} {d : D} {v : V} {x : Value} (r : Rep u H d v) (rv : RelV v x) : x ≠ .notImplemented := by
  intro z
  subst z
  cases d with
  | non => rw [show v = .non from r] at rv; cases rv
  | bl b => rw [show v = .bl b from r] at rv; cases rv
  | int i => rw [show v = .int i from r] at rv; obtain ⟨t, h⟩ := rv; cases h
  | str i => rw [show v = .str i from r] at rv; obtain ⟨t, h⟩ := rv; cases h
  | pen => rw [show v = .ref u.p from r] at rv; cases rv
  | ref a => rw [show v = .ref a from r] at rv; cases rv
  | ty n => rw [show v = .ty n from r] at rv; cases rv
  | tup ds => obtain ⟨a, vs, e, _⟩ := r.tupE; rw [e] at rv; cases rv
  | lst ds => obtain ⟨a, vs, e, _⟩ := r.lstE; rw [e] at rv; cases rv
  | dic ds => obtain ⟨a, vs, e, _⟩ := r.dicE; rw [e] at rv; cases rv
  | obj C ds => obtain ⟨a, dx, vs, e, _⟩ := r.objE; rw [e] at rv; cases rv
theorem cmpBack_ok {v : Value} {s : Shared} {Q : Value → Shared → Prop} (hv : v ≠ .notImplemented) (q : Q v s) : PySem.W.CmpBack Q v s := by
  cases v <;> first | exact q | exact absurd rfl hv
/-- a method of an own class, run from an operation -/
theorem run_op {u : U} {n : Nat} {H : Hp} {ds : List D} {vs : List V} {us : List Value} {Q : VK} {S : SpD} {σ : L2.St} {pins : List (Addr × Obj)} {s : Shared} {f : Addr} {fd : FuncData} {ps : List Str} (F : FnG X.prog X.w X.K X.mg X.base CX0 k f fd ps (spN ar c S)) (hb : Binds X.K fd ps []) (hr : RoomG k X.A)
    (A : Al u n H) (hn : n + c ≤ lim) (I : Inv X pins σ H s) (r : RepL u H ds vs) (rv : Vals vs us) (hl : ds.length = ar) (hS : S ds post) (kn : KN u (n + c) H post Q) :
    wpAny (model X.prog X.w) X.A (call (.ref f) us) (PySem.W.CmpBack (EP X pins σ Q)) X.xe s := by
  have q : spN ar c S vs H (fun v H' => (∀ x, RelV v x → x ≠ .notImplemented) ∧ Q v H') E0 := ⟨u, n, ds, post, A, hn, r, hl, hS, fun v d H' e p r' q => ⟨fun x rx => rep_nn r' rx, kn v d H' e p r' q⟩⟩
  have hlen : us.length = ps.length := by rw [← rv.length]; exact F.len _ _ _ _ q
  refine wpAny_mono (run_g F hr (fun _ _ z => z.elim) I rv ?_ q) (fun v s' ⟨v', H', I', rv', hnn, q'⟩ => cmpBack_ok (hnn v rv') ⟨v', H', I', rv', q'⟩) fun _ _ z => z
  simpa using hb s us I.kIn (by simpa using hlen)
theorem o2_own {op : Operator} {T : String} {fs : List (Str × D)} {d2 : D} {S : SpD} (F : MtD X.prog X.w X.K X.mg X.base k C (PySem.dunder op.info.2) 2 c S) (O : OpT X.K C op.info.2 T) (hr : RoomG j X.A) (hk : k ≤ j) (hT : tyD d2 = some (.type T)) (hsc : Scal d2) (hS : S [.obj C fs, d2] post) : O2 X W c (binaryOp op) (.obj C fs) d2 post xp := fun u n H σ x y Q A hn rx ry kn kx => TO.mk fun pins s v w I rv rw' => by
  obtain ⟨f, fd, ps, cl, hm, F, hb⟩ := F.ex
  have rx0 := rx
  obtain ⟨a', dx, us0, ev, f', g, rf⟩ := rx.objE
  subst ev
  obtain rfl : v = Value.ref a' := rv
  obtain ⟨mA, J, _⟩ := ins_get I.hok g
  obtain ⟨od, J, _⟩ := J.look
  obtain ⟨m, hF⟩ := I.fr
  obtain ⟨rc, h1, h2⟩ := O.rv'
  obtain ⟨fo, h3⟩ := Option.isSome_iff_exists.mp O.t1
  obtain ⟨ro, h4⟩ := Option.isSome_iff_exists.mp O.t2
  have hty : typeOf w = pure (.type T) := by
    cases d2 with
    | non => rw [show y = .non from ry] at rw'; obtain rfl : w = .none := rw'; cases hT; rfl
    | bl b => rw [show y = .bl b from ry] at rw'; obtain rfl : w = .bool b := rw'; cases hT; rfl
    | int i => rw [show y = .int i from ry] at rw'; obtain ⟨t, rfl⟩ := rw'; cases hT; rfl
    | str i => rw [show y = .str i from ry] at rw'; obtain ⟨t, rfl⟩ := rw'; cases hT; rfl
    | _ => first | cases hT; done | exact hsc.elim
  exact PySem.W.ksp_binT hF I.ok.mod.kin J hty O.first hm.at_ hm.fn h1 h2 h3 h4 O.sub (run_op F hb (hr.mono hk) A hn I (RepL.cons rx0 (RepL.cons ry RepL.nil)) (.cons rfl (.cons rw' .nil)) rfl hS kn)
theorem o2_ownS {op : Operator} {fs gs : List (Str × D)} {S : SpD} (F : MtD X.prog X.w X.K X.mg X.base k C (PySem.dunder op.info.2) 2 c S) (O : PySem.W.selfFirst X.K C = true) (hr : RoomG j X.A) (hk : k ≤ j) (hS : S [.obj C fs, .obj C gs] post) : O2 X W c (binaryOp op) (.obj C fs) (.obj C gs) post xp := fun u n H σ x y Q A hn rx ry kn kx => TO.mk fun pins s v w I rv rw' => by
  obtain ⟨f, fd, ps, cl, hm, F, hb⟩ := F.ex
  have rx0 := rx
  have ry0 := ry
  obtain ⟨a', dx, us0, ev, f', g, rf⟩ := rx.objE
  obtain ⟨b', dy, us1, ew, f2, g2, rf2⟩ := ry.objE
  subst ev
  subst ew
  obtain rfl : v = Value.ref a' := rv
  obtain rfl : w = Value.ref b' := rw'
  obtain ⟨mA, J, _⟩ := ins_get I.hok g
  obtain ⟨od, J, _⟩ := J.look
  obtain ⟨mB, J2, _⟩ := ins_get I.hok g2
  obtain ⟨oe, J2, _⟩ := J2.look
  obtain ⟨m, hF⟩ := I.fr
  exact PySem.W.dx_bin_same hF I.ok.mod.kin J J2 O hm.at_ hm.fn (run_op F hb (hr.mono hk) A hn I (RepL.cons rx0 (RepL.cons ry0 RepL.nil)) (.cons rfl (.cons rfl .nil)) rfl hS kn)
end
end Dx
-- DxP
/-! enumerate over a tuple -/
namespace PySem
open Sem (wp)
open AutoSeq1 (wpAny_loadPart')
theorem dx_meets_enumT (l : Addr) (items : Array Value) (n : Nat) (dct : Option Addr) (sl : Array (Option Value)) :
    Meets (Builtin.«enumerate.__new__» ⟨[.type "enumerate", .ref l], []⟩) (fun _ R s => s.heap.get? l = some { cls := .type "tuple", dict := dct, data := .seq items n, slots := sl } ∧
      R (.ok (.ret (.ref (s.heap.push { cls := .type "tuple_iterator", data := .fields #[.ref l, .int 0 0] }).objs.size)))
        { s with heap := (s.heap.push { cls := .type "tuple_iterator", data := .fields #[.ref l, .int 0 0] }).push
                          { cls := .type "enumerate", data := .fields #[.none, .bool false, .ref s.heap.objs.size, rawInt 0, .none, .none] } }) :=
  .of_wp fun prog w A R s h => by
    obtain ⟨hp, g, d, tk, os⟩ := s
    obtain ⟨hl, h⟩ := h
    have hsub := sub_enumerate
    have hT : Heap.IsTuple (Shared.heap ⟨hp, g, d, tk, os⟩) l items := ⟨_, hl, rfl, n, rfl⟩
    wp_walk using wpAny_loadPart' hl
    refine wpAny_stack_any fun st => wpAny_pure ?_
    split
    · rename_i c _ _ _ _ _
      cases (c == Value.type "enumerate")
      · wp_walk using wpAny_loadPart' hl, wpAny_pyIter_tuple hT
        exact ⟨_, rfl, h⟩
      · wp_walk using wpAny_loadPart' hl, wpAny_pyIter_tuple hT
        exact ⟨_, rfl, h⟩
    · wp_walk using wpAny_loadPart' hl, wpAny_pyIter_tuple hT
      exact ⟨_, rfl, h⟩
theorem dx_enum_tuple {prog : Program} {w : World} {A : Around} {E : Value → Shared → Prop} {s : Shared} {l : Addr} {items : Array Value} {Q : Value → Shared → Prop} (hL : s.heap.IsTuple l items)
    (h : ∀ h', IsEnum h' (s.heap.objs.size + 1) s.heap.objs.size 0 .none → h'.IsTupleIter s.heap.objs.size l 0 → h'.objs.size = s.heap.objs.size + 2 → (∀ b o, s.heap.get? b = some o → h'.get? b = some o) →
      Q (.ref (s.heap.objs.size + 1)) { s with heap := h' }) : wpAny (model prog w) A (call (.type "enumerate") [.ref l]) Q E s := by
  obtain ⟨⟨c, dct, dt, sl⟩, hl, hc, n, hd⟩ := hL
  replace hc : c = .type "tuple" := hc
  replace hd : dt = .seq items n := hd
  subst hc hd
  refine callType_new F.called_enumerate (by decide) (F.typeCall_enumerate_1 _) (F.newCall_enumerate_1 _) (fun obj => F.args_object_init_2 obj _) F.entry_enumerate_new (dx_meets_enumT l items n dct sl) ⟨hl, ?_⟩
  have hz : (s.heap.push { cls := .type "tuple_iterator", data := .fields #[.ref l, .int 0 0] }).objs.size = s.heap.objs.size + 1 := Heap.size_push ..
  show _ ∧ _
  rw [hz]
  have he : IsEnum ((s.heap.push { cls := .type "tuple_iterator", data := .fields #[.ref l, .int 0 0] }).push
      { cls := .type "enumerate", data := .fields #[.none, .bool false, .ref s.heap.objs.size, rawInt 0, .none, .none] }) (s.heap.objs.size + 1) s.heap.objs.size 0 .none := by
    have z := Heap.get?_push_size (s.heap.push { cls := .type "tuple_iterator", data := .fields #[.ref l, .int 0 0] }) (o := { cls := .type "enumerate", data := .fields #[.none, .bool false, .ref s.heap.objs.size, rawInt 0, .none, .none] }) rfl
    rw [hz] at z
    exact z
  refine ⟨⟨_, he, rfl⟩, ?_⟩
  exact h _ he ⟨_, Heap.get?_push_of_some _ (Heap.get?_push_size _ rfl), rfl, rfl⟩ (by rw [Heap.size_push, hz]) fun b o x => Heap.get?_push_of_some _ (Heap.get?_push_of_some _ x)
end PySem
namespace Dx
open PySem PySem.Spec PyProof.Rows L2
def IteT (K : PySem.W.Frag) (a : Addr) : It :=
  ⟨fun i H => ∃ (xs : List V) (x : V), SqT K H a xs ∧ xs[i]? = some x, fun i H v H' => ∃ T x, v = .ref T ∧ H T = none ∧ H' = upd H T (.tup [.int (i : Nat), x]) ∧ ∀ xs, SqT K H a xs → xs[i]? = some x, fun i H => ∃ xs : List V, SqT K H a xs ∧ xs.length ≤ i⟩
theorem turn_enumT {P : Program} {w : World} {K : PySem.W.Frag} {elts : List Expr} {kk : Nat} {tpos : Pos} (a e it : Addr) :
    Turn P w K (.Tuple elts kk tpos) (IteT K a) [e, it] e (fun i h => (∃ old, IsEnum h e it ((i : Nat) : Int) old) ∧ h.IsTupleIter it a i ∧ e ≠ it ∧ a ≠ it ∧ a ≠ e) where
  mem := by simp
  obj := fun i h st b hb => by
    obtain ⟨⟨old, he⟩, ⟨o, ho, hc, hd⟩, _⟩ := st
    have e' : b = e ∨ b = it := by simpa using hb
    rcases e' with z | z
    · rw [z]; exact ⟨_, he, fun v q => nomatch q⟩
    · rw [z]; exact ⟨o, ho, fun v q => by rw [hd] at q; cases q⟩
  keep := fun i h h' st k => by
    obtain ⟨⟨old, he⟩, hi, hne⟩ := st
    exact ⟨⟨old, k e (by simp) _ he⟩, hi.at fun o q => k it (by simp) o q, hne⟩
  item := by
    intro X hP hw hK hc i pins s σ H E I hf st hg
    subst hP hw hK
    obtain ⟨⟨old, he⟩, hit, hne, hai, hae⟩ := st
    obtain ⟨xs, x, hq, hx⟩ := hg
    obtain ⟨its, rv, p, hz⟩ := I.tuple hq
    obtain ⟨u, hu, ru⟩ := rv.get hx
    have hT : s.heap.IsTuple a its.toArray := p
    have hel : e < s.heap.objs.size := Heap.lt_size he
    have hil : it < s.heap.objs.size := by obtain ⟨_, q, _⟩ := hit; exact Heap.lt_size q
    have dr : Draws X.prog X.w X.A.in1 it [it, a] its.toArray.size (fun i v => its.toArray[i]? = some v) (fun i h => h.IsTupleIter it a i ∧ h.IsTuple a its.toArray) := Draws.tuple (A := X.A.in1) (I.ok.hd hc) it a hai its.toArray
    have hlt : i < its.toArray.size := by
      rw [List.size_toArray]
      exact (List.getElem?_eq_some_iff.mp hu).1
    refine wpAny_pyNext_enum_itemD dr he ⟨hit, hT⟩ hlt hne (by simp [hne, Ne.symm hae]) fun x' h' tk hx' ho hit' hT1 hsz hk => ?_
    obtain ⟨hit', hT'⟩ := hit'
    have ex : x' = u := by
      have : its[i]? = some x' := by simpa using hx'
      rw [hu] at this; exact (Option.some.inj this).symm
    subst ex
    refine ⟨_, rfl, wpAny_letOwnedTupleGo_enum (s := { s with heap := h', toks := tk + 1 }) ho fun h'' he' sb => ?_⟩
    have hT2 : h''.get? s.heap.objs.size = some { cls := .type "tuple", data := .seq #[.int i tk, x'] } := (sb.2 _ (Nat.ne_of_gt hel)).trans hT1
    have new : ObjOk X.prog X.w (upd H s.heap.objs.size (.tup [.int (i : Nat), x])) h'' s.heap.objs.size (.tup [.int (i : Nat), x]) :=
      ⟨by show 2 ≤ sizeLine; decide, [.int i tk, x'], .cons ⟨_, rfl⟩ (.cons ru .nil), ⟨_, hT2, rfl, _, rfl⟩⟩
    have I1 : Inv X pins σ (upd H s.heap.objs.size (.tup [.int (i : Nat), x])) { s with heap := h'', toks := tk + 1 } :=
      I.turnedNew (ch := [e, it]) (fun b ob hb q => (sb.2 b (fun z => hb (by simp [z]))).trans (hk b ob (fun z => hb (by simp [z])) (fun z => hb (by simp [z])) q)) hf (Nat.le_refl _) new
    refine ⟨.ref s.heap.objs.size, _, I1, rfl, ⟨_, x, rfl, I.hok.fresh (Nat.le_refl _), rfl, fun ys hy => by rw [I.tuple_inj hy hq]; exact hx⟩, ⟨⟨x', ?_⟩, hit'.at fun o q => (sb.2 it (Ne.symm hne)).trans q, hne, hai, hae⟩, fun b hb => ?_⟩
    · have e1 : ((i + 1 : Nat) : Int) = (i : Int) + 1 := by omega
      rw [e1]; exact he'
    · have hb' : b < s.heap.objs.size := by
        have e' : b = e ∨ b = it := by simpa using hb
        rcases e' with z | z
        · rw [z]; exact hel
        · rw [z]; exact hil
      rw [upd_ne (Nat.ne_of_lt hb')]
      exact (hf b hb).1
  done := by
    intro X hP hw hK hc i pins s σ H E I hf st hg
    subst hP hw hK
    obtain ⟨⟨old, he⟩, hit, hne, hai, hae⟩ := st
    obtain ⟨xs, hq, hx⟩ := hg
    obtain ⟨its, rv, p, hz⟩ := I.tuple hq
    have hT : s.heap.IsTuple a its.toArray := p
    obtain ⟨f0, f1, f2, f3, f4, f5⟩ := hf it (by simp)
    have hl := rv.length
    have dr : Draws X.prog X.w X.A.in1 it [it, a] i (fun i v => its.toArray[i]? = some v) (fun j h => h.IsTupleIter it a j ∧ h.IsTuple a its.toArray ∧ j = i) := by
      have d0 := Draws.tuple (prog := X.prog) (w := X.w) (A := X.A.in1) (I.ok.hd hc) it a hai its.toArray
      refine ⟨fun j h st => d0.live j h ⟨st.1, st.2.1⟩, fun j h h' st k => ⟨(d0.frame j h h' ⟨st.1, st.2.1⟩ k).1, (d0.frame j h h' ⟨st.1, st.2.1⟩ k).2, st.2.2⟩, fun j s Q E hj st hQ => absurd st.2.2 (by omega), fun s Q E st hE => ?_⟩
      refine wpAny_nextOf_tuple_end (I.ok.hd hc) st.1 st.2.1 ?_ hE
      have : its.length ≤ i := by rw [← hl]; exact hx
      simpa using this
    exact wpAny_pyNext_enum_endD dr he ⟨hit, hT, rfl⟩ fun h' eb => ⟨rfl, I.turned (t' := s.toks) (fun b o hb q => eb b o hb q) f0 f1 f3 f4 f5⟩
  self := fun A i s Q E st h => by
    obtain ⟨⟨_, he⟩, _⟩ := st
    exact wpAny_pyIter_enum he h
def iEnumT (K : PySem.W.Frag) (ta : TA) : TI := fun σ H R => ta σ H fun vs H1 => ∃ a xs, vs = [.ref a] ∧ SqT K H1 a xs ∧ R (IteT K a) H1
theorem pi_enumT {X : Cx} {e : Expr} {ta : TA} {p pos tpos : Pos} {elts : List Expr} {kk : Nat} (hg : Gl X "enumerate") (hm : X.mg "enumerate" = none) (ha : PA X [e] ta) (hs : starEach [e] X.env = [(false, eval e X.env)] := by rfl) :
    PI X (.Tuple elts kk tpos) (.Call (.Name "enumerate" p) [e] [] pos) (iEnumT X.K ta) := by
  refine ⟨fun pins s σ H R I h => ?_⟩
  refine Call_ (ld_blt I hg hm boot_enumerate (PyProof.Rows.callWith_type1 (thn (ha.run pos pins s σ H _ I h) fun us s1 ⟨vs, H1, I1, r1, q1⟩ => ?_) hs rfl))
  obtain ⟨a, xs, ex, hq, q⟩ := q1
  subst ex
  cases r1 with
  | cons r rr =>
    cases rr
    cases r
    obtain ⟨its, rv, p', hz⟩ := I1.tuple hq
    have hT : s1.heap.IsTuple a its.toArray := p'
    have hal : a < s1.heap.objs.size := by
      obtain ⟨o, ho, _⟩ := hT
      exact Heap.lt_size ho
    refine dx_enum_tuple hT fun h' he hit hsz hk => wpAny_pyIter_enum he ?_
    have I2 : Inv X pins σ H1 { s1 with heap := h' } := I1.kept (t' := s1.toks) hk
    refine ⟨s1.heap.objs.size + 1, [s1.heap.objs.size + 1, s1.heap.objs.size], _, _, H1, rfl, I2, turn_enumT a (s1.heap.objs.size + 1) s1.heap.objs.size, ⟨⟨.none, he⟩, hit, Nat.succ_ne_self _, Nat.ne_of_lt hal, Nat.ne_of_lt (Nat.lt_succ_of_lt hal)⟩, fun b hb => ?_, q⟩
    have e' : b = s1.heap.objs.size + 1 ∨ b = s1.heap.objs.size := by simpa using hb
    have hle : s1.heap.objs.size ≤ b := by
      rcases e' with z | z
      · rw [z]; exact Nat.le_add_right _ _
      · rw [z]; exact Nat.le_refl _
    exact I1.fpOk hle (I1.hok.fresh hle)
theorem walk_enumT {K : PySem.W.Frag} {a : Addr} {xs : List V} : Walk (IteT K a) xs.length (fun H => SqT K H a xs) (YPair (fun i => some (.int (i : Nat))) (fun i => xs[i]?)) := by
  refine ⟨fun i _ hi q => ⟨xs, xs[i], q, by simp [hi]⟩, fun _ q => ⟨xs, q, Nat.le_refl _⟩, fun i H v H' _ q y => ?_⟩
  obtain ⟨T, x, h1, h2, h3, h4⟩ := y
  exact ⟨T, .int (i : Nat), x, h1, h2, h3, rfl, h4 xs q⟩
/-- the pairs -/
def numbered (ds : List D) : List D := (List.range ds.length).zipWith (fun (i : Nat) d => D.tup [.int (i : Int), d]) ds
theorem numbered_len {ds : List D} : (numbered ds).length = ds.length := by simp [numbered]
theorem numbered_get {ds : List D} {i : Nat} {d : D} (h : ds[i]? = some d) : (numbered ds)[i]? = some (.tup [.int (i : Int), d]) := by
  have hi := (List.getElem?_eq_some_iff.mp h).1
  simp [numbered, List.getElem?_zipWith, h, List.getElem?_range hi]
section
variable {X : Cx} {W : WX} {c c1 c2 c3 : Nat} {Γ : Gm} {post : D → Prop} {xp : XP} {a b e : Expr} {pos : Pos}
theorem ypair_rep {u' : U} {H H' : Hp} {i : Nat} {v : V} {f g : Nat → Option V} {d1 d2 : D} {v1 v2 : V} (hd : ∀ a, u'.F a → ∃ o, H a = some o) (hy : YPair f g i H v H') (h1 : f i = some v1) (h2 : g i = some v2) (r1 : Rep u' H d1 v1) (r2 : Rep u' H d2 v2) :
    (∀ a o, H a = some o → H' a = some o) ∧ Rep u' H' (.tup [d1, d2]) v := by
  obtain ⟨T, x, y, e1, e2, e3, e4, e5⟩ := hy
  rw [h1] at e4; cases e4
  rw [h2] at e5; cases e5
  subst e1
  subst e3
  have kp : ∀ a o, H a = some o → upd H T (.tup [v1, v2]) a = some o := fun a o g => by rw [upd_ne (ne_of_none g e2)]; exact g
  have nF : ¬ u'.F T := fun f => by
    obtain ⟨o, ho⟩ := hd T f
    rw [e2] at ho; cases ho
  exact ⟨kp, T, [v1, v2], rfl, nF, upd_same, RepL.cons (Rep.mono (u := u') (u' := u') (fun a o _ g => kp a o g) rfl (fun _ _ f _ => f) _ _ r1) (RepL.cons (Rep.mono (u := u') (u' := u') (fun a o _ g => kp a o g) rfl (fun _ _ f _ => f) _ _ r2) RepL.nil)⟩
theorem di_enum {p tpos : Pos} {elts : List Expr} {kk : Nat} {pl : List D → Prop} (hm : X.mg "enumerate" = none) (h : DA X W c [e] Γ (fun ds => ∃ es, ds = [.lst es] ∧ pl (numbered es)) xp) (hg : Gl X "enumerate" := by rfl) (hs : starEach [e] X.env = [(false, eval e X.env)] := by rfl) :
    DI X W c (.Tuple elts kk tpos) (.Call (.Name "enumerate" p) [e] [] pos) Γ pl xp := fun u n H σ R A hn kn kx => by
  refine twi_of (pi_enum hg hm (twa_pa X [e]) hs) ?_
  refine h u n H σ _ A hn (fun vs ds H1 e1 p1 r1 ⟨es, ed, q⟩ => ?_) kx
  subst ed
  obtain ⟨x, ev, rx⟩ := r1.one
  obtain ⟨a, ws, ew, f, g, rl⟩ := rx.lstE
  refine ⟨a, ws, by rw [ev, ew], SqL.of g, kn _ _ H1 e1 p1 ⟨fun H => SqL X.K H a ws, _, by rw [numbered_len, ← rl.length]; exact walk_enum, fun H2 k => SqL.of (k a _ f g), fun u' i H2 y H3 hp hF hd k hi hy => ?_⟩ q⟩
  rw [numbered_len, ← rl.length] at hi
  obtain ⟨d, hd', rd⟩ := rl.getV (show ws[i]? = some ws[i] by simp [hi])
  obtain ⟨k1, k2⟩ := ypair_rep (d1 := .int (i : Int)) (v1 := .int (i : Int)) hd hy rfl (show ws[i]? = some ws[i] by simp [hi]) rfl (Rep.mono k hp hF d _ rd)
  exact ⟨k1, _, numbered_get hd', k2⟩
theorem di_enumT {p tpos : Pos} {elts : List Expr} {kk : Nat} {pl : List D → Prop} (hm : X.mg "enumerate" = none) (h : DA X W c [e] Γ (fun ds => ∃ es, ds = [.tup es] ∧ pl (numbered es)) xp) (hg : Gl X "enumerate" := by rfl) (hs : starEach [e] X.env = [(false, eval e X.env)] := by rfl) :
    DI X W c (.Tuple elts kk tpos) (.Call (.Name "enumerate" p) [e] [] pos) Γ pl xp := fun u n H σ R A hn kn kx => by
  refine twi_of (pi_enumT hg hm (twa_pa X [e]) hs) ?_
  refine h u n H σ _ A hn (fun vs ds H1 e1 p1 r1 ⟨es, ed, q⟩ => ?_) kx
  subst ed
  obtain ⟨x, ev, rx⟩ := r1.one
  obtain ⟨a, ws, ew, f, g, rl⟩ := rx.tupE
  refine ⟨a, ws, by rw [ev, ew], SqT.of g, kn _ _ H1 e1 p1 ⟨fun H => SqT X.K H a ws, _, by rw [numbered_len, ← rl.length]; exact walk_enumT, fun H2 k => SqT.of (k a _ f g), fun u' i H2 y H3 hp hF hd k hi hy => ?_⟩ q⟩
  rw [numbered_len, ← rl.length] at hi
  obtain ⟨d, hd', rd⟩ := rl.getV (show ws[i]? = some ws[i] by simp [hi])
  obtain ⟨k1, k2⟩ := ypair_rep (d1 := .int (i : Int)) (v1 := .int (i : Int)) hd hy rfl (show ws[i]? = some ws[i] by simp [hi]) rfl (Rep.mono k hp hF d _ rd)
  exact ⟨k1, _, numbered_get hd', k2⟩
end
end Dx
-- DxQ
namespace Dx
open PySem PySem.Spec PyProof.Rows L2
section
variable {X : Cx} {W : WX} {c c1 c2 c3 : Nat} {Γ : Gm} {O : Out} {xp : XP} {a b e : Expr} {pos : Pos} {st : Stmt} {sts : List Stmt}
/-- for (x, y, ..) in iter: body -/
theorem ds_forT {iter : Expr} {body : List Stmt} {es : List Expr} (is : List Nat) {kt : Nat} {tp : Pos} (m : Nat) (hp : PassesOwn (model X.prog X.w) X.A X.env X.xe) (hT : Tgs X es is)
    (h : DI X W c1 (.Tuple es kt tp) iter Γ (fun ds => ds.length ≤ m ∧ ∃ I : Nat → Gm → Prop, I 0 Γ ∧ (∀ Γ', I ds.length Γ' → O.nx Γ') ∧
      ∀ (i : Nat) (d : D) (Γ' : Gm), ds[i]? = some d → I i Γ' → ∃ ps, d = .tup ps ∧ ps.length = is.length ∧ DB X W c2 body (setAll Γ' is ps) { nx := I (i + 1), ct := I (i + 1), bk := O.nx, rt := O.rt } xp) xp)
    (hc : X.calm = true := by rfl) (hs : ∀ x, foldedSetIterable iter X.env x = pure x := by intro _; rfl) (hn' : (assignEach es X.env).length = is.length := by rfl) (hst' : (assignEach es X.env).findIdx? (·.1) = none := by rfl) :
    DSt X W (c1 + m * c2) (.For (.Tuple es kt tp) iter body [] pos) Γ O xp := fun u M H0 n H σ D B S hn k => by
  obtain ⟨F, S⟩ := S
  refine tws_of (ps_for hp hc (twi_pi X _ iter) (pg_tup hc (tgs_pgs hT) hn' hst') (twss_pss X body) hs) ?_
  refine h ⟨F, u.p, u.cl⟩ n H σ _ S.at_ (by omega) (fun J ds H1 e1 p1 wk ⟨hm, I, h0, hd, hst⟩ => ?_) (k.kx (F := F) B _ rfl rfl S.up S.ex (by omega))
  have S1 := S.step B e1 p1
  have B1 := B.sub S1
  obtain ⟨G, Y, wl, hG, hY⟩ := wk.ex
  have hmul : ∀ i, i ≤ ds.length → i * c2 ≤ m * c2 := fun i hi => Nat.mul_le_mul_right _ (Nat.le_trans hi hm)
  have hkp : ∀ Hc, ExM (Mb u F) H1 Hc → Kp F H1 Hc := fun Hc ee b o f g => ee.1 b o (fun z => by
    rcases z with z | z
    · exact f (by rw [z]; exact S1.up _ B.pF)
    · exact f z.1) g
  refine for_it wl (fun i σ' Hc => ∃ Γ', StOk u (Mb u F) H1 (n + c1 + i * c2) Hc σ' Γ' ∧ I i Γ') ⟨Γ, by simpa using (show StOk u (Mb u F) H1 (n + c1) H1 σ Γ from ⟨F, S1.sub B⟩), h0⟩ (fun i σ' Hc _ ⟨Γ', ⟨F', T⟩, _⟩ => hG Hc (hkp Hc T.ex)) (fun i v σ' Hc Hc' hi ⟨Γ', ⟨F', T⟩, hI⟩ hy => ?_) (fun σ' Hc ⟨Γ', ⟨F', T⟩, hI⟩ => ?_)
  · have hb := hmul (i + 1) hi
    have hs1 : (i + 1) * c2 = i * c2 + c2 := by rw [Nat.succ_mul]
    have hF' : ∀ b o, ¬ F b → H1 b = some o → ¬ F' b := fun b o f g z => by
      rcases T.new b z with q | q | q
      · exact f (S1.up b q)
      · rcases q with q | q
        · exact f (by rw [q]; exact S1.up _ B.pF)
        · exact f q.1
      · rw [q] at g; cases g
    obtain ⟨kp, d, hd', rd⟩ := hY ⟨F', u.p, u.cl⟩ i Hc v Hc' rfl hF' T.at_.dom (hkp Hc T.ex) hi hy
    obtain ⟨qs, ed, hql, hbody⟩ := hst i d Γ' hd' hI
    subst ed
    obtain ⟨a', ws, ev, f', g', rl⟩ := rd.tupE
    have T1 := (T.step B1 (exp_keep kp) (T.at_.pen.keep kp)).setAll (is := is) rl
    refine ⟨a', ws, ev, SqT.of g', by rw [rl.length, hql], gAll_run (by rw [rl.length, hql]) ?_⟩
    refine hbody u (Mb u F) H1 (n + c1 + i * c2) Hc' _ _ B1 ⟨F', T1⟩ (by omega) ⟨fun Γ2 σ2 H2 s2 q2 => ⟨Γ2, by rw [hs1, ← Nat.add_assoc]; exact s2, q2⟩, fun v2 d2 H2 ee p2 r2 q2 => ?_, fun Γ2 σ2 H2 ⟨F2, s2⟩ q2 => ?_, fun Γ2 σ2 H2 s2 q2 => ⟨Γ2, by rw [hs1, ← Nat.add_assoc]; exact s2, q2⟩, fun cls od C fs σ2 H2 ee p2 r2 q2 => ?_⟩
    · exact k.rt v2 d2 H2 (ee.back S1 B) (p2.up (by omega)) r2 q2
    · exact k.nx Γ2 σ2 H2 (StOk.up ⟨F2, S1.back B s2⟩ (by omega)) q2
    · exact k.xx cls od C fs σ2 H2 (ee.back S1 B) (p2.up (by omega)) r2 q2
  · have hb := hmul ds.length (Nat.le_refl _)
    exact k.nx Γ' σ' Hc (StOk.up ⟨F', S1.back B T⟩ (by omega)) (hd Γ' hI)
/-- x.append(y.pop(e)), both lists of this body -/
theorem ds_appPop (i j : Nat) {x y : Str} {p1 p2 p3 p4 q1 q2 q3 : Pos} {ds es : List D} (g : Γ[i]? = some (.li ds)) (gj : Γ[j]? = some (.li es)) (hij : i ≠ j)
    (h : DE X W c e (shG Γ) (fun d => ∃ (k : Nat) (y : D), d = .int (k : Int) ∧ k < 2 ^ 62 ∧ es[k]? = some y ∧ ds.length < sizeLine ∧ O.nx ((Γ.set j (.li (es.eraseIdx k))).set i (.li (ds ++ [y])))) xp) (hi : X.N[i]? = some x := by rfl) (hj : X.N[j]? = some y := by rfl)
    (hv : Vis X.env.scope x := by first | exact Or.inl rfl | exact Or.inr (Or.inl rfl) | exact Or.inr (Or.inr rfl)) (hvy : Vis X.env.scope y := by first | exact Or.inl rfl | exact Or.inr (Or.inl rfl) | exact Or.inr (Or.inr rfl))
    (hd : (x == ("__debug__" : Str)) = false := by decide) (hcd : (x == ("__classdict__" : Str)) = false := by decide) (hdy : (y == ("__debug__" : Str)) = false := by decide) (hcdy : (y == ("__classdict__" : Str)) = false := by decide)
    (hbase : attributeBase (.Name x p1) "append" X.env (eval (.Name x p1) X.env) = eval (.Name x p1) X.env := by rfl) (hbasey : attributeBase (.Name y q1) "pop" X.env (eval (.Name y q1) X.env) = eval (.Name y q1) X.env := by rfl)
    (hfew : ((backTo p3 (starEach [.Call (.Attribute (.Name y q1) "pop" q2) [e] [] q3] X.env)).all (fun x => !x.1) && (backToKw p3 (keywordEach [] X.env)).all (fun x => x.1.isSome) && decide ([Expr.Call (.Attribute (.Name y q1) "pop" q2) [e] [] q3].length + ([] : List Keyword).length + (if ([] : List Keyword).isEmpty then 0 else 1) < 30)) = true := by rfl)
    (hfewy : ((backTo q3 (starEach [e] X.env)).all (fun x => !x.1) && (backToKw q3 (keywordEach [] X.env)).all (fun x => x.1.isSome) && decide ([e].length + ([] : List Keyword).length + (if ([] : List Keyword).isEmpty then 0 else 1) < 30)) = true := by rfl)
    (hline : (p2.endLine == p3.line) = true := by rfl) (hliney : (q2.endLine == q3.line) = true := by rfl) (hst : starEach [.Call (.Attribute (.Name y q1) "pop" q2) [e] [] q3] X.env = (false, eval (.Call (.Attribute (.Name y q1) "pop" q2) [e] [] q3) X.env) :: starEach [] X.env := by rfl)
    (hsty : starEach [e] X.env = (false, eval e X.env) :: starEach [] X.env := by rfl) (hs : swapsWith (.Call (.Attribute (.Name x p1) "append" p2) [.Call (.Attribute (.Name y q1) "pop" q2) [e] [] q3] [] p3) none p4.line X.env = pure false := by rfl) :
    DSt X W c (.Expr (.Call (.Attribute (.Name x p1) "append" p2) [.Call (.Attribute (.Name y q1) "pop" q2) [e] [] q3] [] p3) p4) Γ O xp := fun u M H0 n H σ D B S hn k => by
  obtain ⟨F, S⟩ := S
  refine tws_of (ps_expr (pe_bm PySem.F.plainAttrs_list PySem.F.slot_list_append PySem.F.type_list_append mt_append (pe_var hi hv hd hcd) (pa_cons (pe_bm PySem.F.plainAttrs_list PySem.F.slot_list_pop PySem.F.type_list_pop mt_popAt (pe_var hj hvy hdy hcdy) (pa_cons (tw_pe X e) pa_nil hsty) hbasey hfewy hliney hsty (by rfl)) pa_nil hst) hbase hfew hline hst (by rfl)) hs) ?_
  obtain ⟨l, vs, el, fl, np, hl, rl⟩ := li_at (u := u) S.at_ g
  obtain ⟨m, ws, em, fm, npm, hm, rm⟩ := li_at (u := u) S.at_ gj
  refine ⟨.ref l, el, .inl ⟨rfl, vs, SqL.of hl⟩, ?_⟩
  refine ⟨.ref m, em, .inl ⟨rfl, ws, SqL.of hm⟩, ?_⟩
  refine h _ n H σ _ S.at_.share hn (fun v d H1 e1 p1 r1 ⟨kk, y', ed, hk, hy, hz, q⟩ => ?_) (k.kx (F := F) B _ rfl rfl (S.share B).up S.ex (Nat.le_refl _))
  subst ed
  have S1 := S.step B e1 p1
  have hm1 : H1 m = some (.lst ws) := e1 m _ npm hm
  have rm1 : RepL ⟨F, u.p, u.cl⟩ H1 es ws := rm.go S.at_.toAl e1
  obtain ⟨vy, hvy', ry⟩ := rm1.get hy
  have hlt : kk < ws.length := (List.getElem?_eq_some_iff.mp hvy').1
  have rer : RepL ⟨F, u.p, u.cl⟩ H1 (es.eraseIdx kk) (ws.eraseIdx kk) := by
    rw [List.eraseIdx_eq_take_drop_succ, List.eraseIdx_eq_take_drop_succ]
    exact (rm1.take kk).append (rm1.drop (kk + 1))
  have S2 := S1.writeLi B gj em rer
  have gi2 : (Γ.set j (.li (es.eraseIdx kk)))[i]? = some (.li ds) := by rw [List.getElem?_set_ne (Ne.symm hij)]; exact g
  have hml : m ≠ l := fun z => by
    subst z
    exact S.at_.sep i j _ _ m hij g gj trivial trivial el em
  refine ⟨m, ws, (kk : Int), kk, vy, rfl, by rw [show v = .int (kk : Int) from r1], hm1, by omega, by omega, ?_, hvy', ?_⟩
  · unfold seqIndex?
    first
      | (simp; omega)
      | simp [hlt]
  · have hl2 : upd H1 m (.lst (ws.eraseIdx kk)) l = some (.lst vs) := by rw [upd_ne (Ne.symm hml)]; exact e1 l _ np hl
    have rl2 : RepL ⟨F, u.p, u.cl⟩ (upd H1 m (.lst (ws.eraseIdx kk))) ds vs := RepL.mono (u := ⟨F, u.p, u.cl⟩) (updF_kp (u := ⟨F, u.p, u.cl⟩) fm) rfl (fun _ _ f _ => f) _ _ (rl.go S.at_.toAl e1)
    have ry2 : Rep ⟨F, u.p, u.cl⟩ (upd H1 m (.lst (ws.eraseIdx kk))) y' vy := Rep.mono (u := ⟨F, u.p, u.cl⟩) (updF_kp (u := ⟨F, u.p, u.cl⟩) fm) rfl (fun _ _ f _ => f) _ _ ry
    exact ⟨l, vs, vy, rfl, rfl, hl2, by rw [rl.length]; exact hz, k.nx _ _ _ ⟨F, S2.writeLi B gi2 el (RepL.append rl2 (RepL.cons ry2 RepL.nil))⟩ q⟩
end
end Dx
-- DxR
namespace Dx
open PySem PySem.Spec PyProof.Rows L2
section
variable {X : Cx} {W : WX} {c c1 c2 c3 : Nat} {Γ : Gm} {post : D → Prop} {xp : XP} {a b e : Expr} {pos : Pos}
/-- [f(d) for d in ds] -/
theorem dc_lcM {elt iter : Expr} {scope : Scope} {x : Str} (j : Nat) {tp : Pos} (m : Nat) (ok : BlkOk X.N X.env.scope scope [(x, j)])
    (hg : ∀ (s : Shared) (H : Hp) (C : Addr) (cl : List (Str × Addr)) (fp : List Addr), PG (Blk X scope s H C cl fp) (.Name x tp) (gName j))
    (h : DI X W c1 (.Name x tp) iter Γ (fun ds => ds.length ≤ m ∧ m ≤ 100000 ∧ ∃ f : D → D, post (.lst (ds.map f)) ∧
      ∀ d ∈ ds, ∀ (s : Shared) (H : Hp) (C : Addr) (cl : List (Str × Addr)) (fp : List Addr), DE (Blk X scope s H C cl fp) WN c2 elt (Γ.set j (.va d)) (fun dy => dy = f d) XN) xp)
    (hs : ∀ x, foldedSetIterable iter X.env x = pure x := by intro _; rfl) : DC X W (c1 + m * c2) (.ListComp elt [⟨.Name x tp, iter, [], 0⟩] scope pos) Γ post xp := by
  refine dc_lc j m ok hg (fun u n H σ R A hn kn kx => h u n H σ R A hn (fun J ds H' e p w ⟨h1, h2, f, h3, h4⟩ => kn J ds H' e p w ⟨h1, Nat.le_trans h1 h2, fun i acc => acc = (ds.take i).map f, by simp, fun acc ha => by rw [ha, List.take_length]; exact h3, fun i d acc hd hI s H C cl fp => ?_⟩) kx) hs
  refine de_imp (h4 d (List.mem_of_getElem? hd) s H C cl fp) fun dy e => ?_
  obtain ⟨hi, hd'⟩ := List.getElem?_eq_some_iff.mp hd
  rw [e, hI, List.take_succ, hd]
  simp
/-- [.. for d in ds], each item so -/
theorem dc_lcA {elt iter : Expr} {scope : Scope} {x : Str} (j : Nat) {tp : Pos} (m : Nat) (ok : BlkOk X.N X.env.scope scope [(x, j)])
    (hg : ∀ (s : Shared) (H : Hp) (C : Addr) (cl : List (Str × Addr)) (fp : List Addr), PG (Blk X scope s H C cl fp) (.Name x tp) (gName j))
    (h : DI X W c1 (.Name x tp) iter Γ (fun ds => ds.length ≤ m ∧ m ≤ 100000 ∧ ∃ p : D → Prop, (∀ acc : List D, acc.length = ds.length → (∀ d ∈ acc, p d) → post (.lst acc)) ∧
      ∀ d ∈ ds, ∀ (s : Shared) (H : Hp) (C : Addr) (cl : List (Str × Addr)) (fp : List Addr), DE (Blk X scope s H C cl fp) WN c2 elt (Γ.set j (.va d)) p XN) xp)
    (hs : ∀ x, foldedSetIterable iter X.env x = pure x := by intro _; rfl) : DC X W (c1 + m * c2) (.ListComp elt [⟨.Name x tp, iter, [], 0⟩] scope pos) Γ post xp := by
  refine dc_lc j m ok hg (fun u n H σ R A hn kn kx => h u n H σ R A hn (fun J ds H' e p w ⟨h1, h2, q, h3, h4⟩ => kn J ds H' e p w ⟨h1, Nat.le_trans h1 h2, fun i acc => acc.length = i ∧ ∀ d ∈ acc, q d, by simp, fun acc ha => h3 acc ha.1 ha.2, fun i d acc hd hI s H C cl fp => ?_⟩) kx) hs
  refine de_imp (h4 d (List.mem_of_getElem? hd) s H C cl fp) fun dy e => ?_
  refine ⟨by simp [hI.1], fun d' hd' => ?_⟩
  rcases List.mem_append.mp hd' with h | h
  · exact hI.2 d' h
  · rw [List.mem_singleton.mp h]; exact e
/-- .. each item a text so -/
theorem strs_of {p : Str → Prop} : ∀ {acc : List D}, (∀ d ∈ acc, ∃ z, d = D.str z ∧ p z) → ∃ zs : List Str, acc = zs.map D.str ∧ ∀ z ∈ zs, p z
  | [], _ => ⟨[], rfl, by simp⟩
  | d :: acc, h => by
    obtain ⟨z, e, hz⟩ := h d (by simp)
    obtain ⟨zs, e2, h2⟩ := strs_of (acc := acc) fun d hd => h d (by simp [hd])
    exact ⟨z :: zs, by rw [e, e2]; rfl, by simpa using ⟨hz, h2⟩⟩
theorem dc_lcS {elt iter : Expr} {scope : Scope} {x : Str} (j : Nat) {tp : Pos} (m : Nat) (ok : BlkOk X.N X.env.scope scope [(x, j)])
    (hg : ∀ (s : Shared) (H : Hp) (C : Addr) (cl : List (Str × Addr)) (fp : List Addr), PG (Blk X scope s H C cl fp) (.Name x tp) (gName j))
    (h : DI X W c1 (.Name x tp) iter Γ (fun ds => ds.length ≤ m ∧ m ≤ 100000 ∧ ∃ p : Str → Prop, (∀ zs : List Str, zs.length = ds.length → (∀ z ∈ zs, p z) → post (.lst (zs.map D.str))) ∧
      ∀ d ∈ ds, ∀ (s : Shared) (H : Hp) (C : Addr) (cl : List (Str × Addr)) (fp : List Addr), DE (Blk X scope s H C cl fp) WN c2 elt (Γ.set j (.va d)) (fun dy => ∃ z, dy = .str z ∧ p z) XN) xp)
    (hs : ∀ x, foldedSetIterable iter X.env x = pure x := by intro _; rfl) : DC X W (c1 + m * c2) (.ListComp elt [⟨.Name x tp, iter, [], 0⟩] scope pos) Γ post xp := by
  refine dc_lcA j m ok hg (fun u n H σ R A hn kn kx => h u n H σ R A hn (fun J ds H' e p w ⟨h1, h2, q, h3, h4⟩ => kn J ds H' e p w ⟨h1, h2, fun d => ∃ z, d = .str z ∧ q z, fun acc hl ha => ?_, h4⟩) kx) hs
  obtain ⟨zs, e2, hz⟩ := strs_of ha
  rw [e2]
  exact h3 zs (by rw [← hl, e2]; simp) hz
/-- the state is the same one at every turn -/
theorem ds_forC {O : Out} {iter : Expr} {body : List Stmt} {x : Str} (j : Nat) {tp : Pos} (m : Nat) (hp : PassesOwn (model X.prog X.w) X.A X.env X.xe) (hg : PG X (.Name x tp) (gName j))
    (h : DI X W c1 (.Name x tp) iter Γ (fun ds => ds.length ≤ m ∧ ∃ I : Gm → Prop, I Γ ∧ (∀ Γ', I Γ' → O.nx Γ') ∧
      ∀ (d : D) (Γ' : Gm), d ∈ ds → I Γ' → DB X W c2 body (Γ'.set j (.va d)) { nx := I, ct := I, bk := O.nx, rt := O.rt } xp) xp)
    (hc : X.calm = true := by rfl) (hs : ∀ x, foldedSetIterable iter X.env x = pure x := by intro _; rfl) : DSt X W (c1 + m * c2) (.For (.Name x tp) iter body [] pos) Γ O xp :=
  ds_for j m hp hg (fun u n H σ R A hn kn kx => h u n H σ R A hn (fun J ds H' e p w ⟨h1, I, h3, h4, h5⟩ => kn J ds H' e p w ⟨h1, fun _ => I, h3, h4, fun i d Γ' hd hI => h5 d Γ' (List.mem_of_getElem? hd) hI⟩) kx) hc hs
/-- y = [comprehension], on one line, y a plain local -/
theorem ds_asgLc {O : Out} (i : Nat) {y : Str} {py spos : Pos} (hN : X.N.Nodup) (h : DC X W c e Γ (fun d => O.nx (Γ.set i (.va d))) xp) (hi : X.N[i]? = some y := by rfl) (hy : X.env.scope.names.lookup y = some .local := by rfl) (hsw : swapsWith e (some (.Name y py)) spos.line X.env = pure true := by first | kernel_rfl | rfl)
    (hc : X.calm = true := by rfl) : DSt X W c (.Assign [.Name y py] e spos) Γ O xp := fun u M H0 n H σ Ek B S hn k => by
  obtain ⟨F, S⟩ := S
  obtain ⟨elt, tg, iter, ifs, scope, pos, own, wi, g, tt, te, rfl, ok, hpi, hg, ht, he, hs, hq⟩ := h
  refine tws_of (ps_setLc hc hN hi hy hsw hpi ok hg ht he hs) ?_
  refine hq ⟨F, u.p, u.cl⟩ n H σ _ S.at_ hn (fun v d H1 e1 p1 r1 q => ?_) (k.kx (F := F) B _ rfl rfl S.up S.ex (Nat.le_refl _))
  exact k.nx _ _ _ ⟨F, (S.step B e1 p1).setVa r1⟩ q
end
end Dx
-- DxS
namespace Dx
open PySem PySem.Spec PyProof.Rows L2
/-! ### texts -/
theorem str_ext {x y : Str} (h : x.cps.toList = y.cps.toList) : x = y := by
  cases x with | mk a => cases y with | mk b =>
  have h : a = b := Array.ext' h
  rw [h]
theorem cp_app (a b : Str) : (a ++ b).cps.toList = a.cps.toList ++ b.cps.toList := cps_toList_append a b
theorem len_cp (a : Str) : a.length = a.cps.toList.length := by simp [Str.length]
def ofL (l : List Nat) : Str := ⟨l.toArray⟩
theorem cp_ofL (l : List Nat) : (ofL l).cps.toList = l := rfl
/-- c * n -/
def repS (x : Str) (n : Int) : Str := ofL (List.replicate n.toNat x.cps.toList).flatten
theorem foldl_app : ∀ (n : Nat) (a x : Array Nat), (List.replicate n x).foldl (· ++ ·) a = a ++ ((List.replicate n x.toList).flatten).toArray
  | 0, a, x => by simp
  | n + 1, a, x => by
    rw [List.replicate_succ, List.foldl_cons, foldl_app n (a ++ x) x, List.replicate_succ, List.flatten_cons]
    apply Array.ext'
    simp
theorem op_mulS {X : Cx} : OpR X (binaryOp .Mult) (fun x y H Q => ∃ (z : Str) (n : Int), x = .str z ∧ y = .int n ∧ 0 ≤ n ∧ n < 2 ^ 62 ∧ z.length * n.toNat ≤ sizeLine ∧ Q (.str (repS z n)) H) := by
  intro pins s σ H x y v u Q I rx ry h
  obtain ⟨z, n, rfl, rfl, h0, h1, h2, q⟩ := h
  obtain ⟨t, rfl⟩ := rx
  obtain ⟨t', rfl⟩ := ry
  have e62 : (2 : Int) ^ 62 < 2 ^ 63 := by decide
  refine P.mul_str ?_ (fun hn1 hnx => ?_) (fun hn1 hnx => ?_) ?_
  · rw [decide_eq_false (by omega), decide_eq_false (by omega)]; rfl
  · intro hgt
    have hn : 0 < n := by omega
    have hz : (z.length : Int) * n ≤ 2 ^ 63 - 1 := by
      have : ((z.length * n.toNat : Nat) : Int) ≤ (sizeLine : Int) := by exact_mod_cast h2
      rw [Int.natCast_mul, Int.toNat_of_nonneg h0] at this
      have e : (sizeLine : Int) ≤ 2 ^ 63 - 1 := by decide
      omega
    have := (Int.le_ediv_iff_mul_le hn).mpr hz
    omega
  · unfold Builtin.Str.tooLong
    simp
    exact h2
  · by_cases hn : n < 1
    · rw [if_pos hn]
      have e0 : n.toNat = 0 := by omega
      have : repS z n = Str.empty := by unfold repS; rw [e0]; rfl
      rw [this] at q
      exact ⟨by decide, .str Str.empty, H, I.tok _, ⟨_, rfl⟩, q⟩
    · rw [if_neg hn]
      by_cases hx : (n == 1 || z.length == 0) = true
      · rw [if_pos hx]
        have : repS z n = z := by
          rcases Bool.or_eq_true_iff.mp hx with h | h
          · have : n = 1 := by simpa using h
            subst this
            apply str_ext
            unfold repS
            rw [cp_ofL]; simp
          · have : z.cps.toList = [] := by
              have h : z.length = 0 := by simpa using h
              rw [len_cp] at h
              exact List.length_eq_zero_iff.mp h
            apply str_ext
            unfold repS
            rw [cp_ofL, this]; simp
        rw [this] at q
        exact ⟨.str z, H, I, ⟨_, rfl⟩, q⟩
      · rw [if_neg hx]
        have e : (⟨(List.replicate n.toNat z.cps).foldl (· ++ ·) #[]⟩ : Str) = repS z n := by
          rw [foldl_app]
          apply str_ext
          unfold repS
          rw [cp_ofL]; simp
        rw [e]
        refine ⟨?_, .str (repS z n), H, I.tok _, ⟨_, rfl⟩, q⟩
        rw [len_cp]
        unfold repS
        rw [cp_ofL]
        rw [len_cp] at h2
        have e2 : ∀ (k : Nat) (l : List Nat), (List.replicate k l).flatten.length = l.length * k := fun k l => by simp [Nat.mul_comm]
        rw [e2]; exact h2
/-- how often a sign stands -/
def cN (c : Nat) (z : Str) : Nat := z.cps.toList.count c
theorem count_cN (c : Nat) (z : Str) : Txt.count z ⟨#[c]⟩ = (cN c z : Int) := by
  rw [count_is]
  unfold cN
  generalize z.cps.toList = l
  induction l with
  | nil => rfl
  | cons a l ih =>
    rw [List.map_cons, List.count_cons]
    by_cases h : a = c
    · subst h
      simp [countIn, ih, same]
      try omega
    · simp [countIn, ih, same, h]
      try omega
/-! ### sorted -/
theorem lt_of_sorted : ∀ (l : List Str), sortedS l = true → l.Pairwise (fun a b => ¬ b.cps.toList < a.cps.toList)
  | [], _ => List.Pairwise.nil
  | x :: r, h => by
    have go : ∀ (p : Str) (r : List Str), risingS p r = true → (∀ y ∈ r, ¬ y.cps.toList < p.cps.toList) ∧ r.Pairwise (fun a b => ¬ b.cps.toList < a.cps.toList) := by
      intro p r
      induction r generalizing p with
      | nil => intro _; exact ⟨by simp, List.Pairwise.nil⟩
      | cons y r ih =>
        intro h
        unfold risingS at h
        rw [Bool.and_eq_true_iff] at h
        obtain ⟨h1, h2⟩ := h
        rw [ltCps_eq] at h1
        have h1 : ¬ y.cps.toList < p.cps.toList := by simpa using h1
        obtain ⟨i1, i2⟩ := ih y h2
        refine ⟨fun w hw => ?_, List.Pairwise.cons i1 i2⟩
        rcases List.mem_cons.mp hw with e | hw
        · rw [e]; exact h1
        · have := i1 w hw
          exact List.not_lt.mpr (List.le_trans (List.not_lt.mp h1) (List.not_lt.mp this))
    exact List.Pairwise.cons (go x r h).1 (go x r h).2
theorem sorted_eq {as bs : List Str} (p : as.Perm bs) (ha : sortedS as = true) (hb : sortedS bs = true) : as = bs := by
  refine List.Perm.eq_of_pairwise (le := fun a b => ¬ b.cps.toList < a.cps.toList) (fun a b _ _ h1 h2 => ?_) (lt_of_sorted as ha) (lt_of_sorted bs hb) p
  exact str_ext (List.le_antisymm (List.not_lt.mp h1) (List.not_lt.mp h2))
section
variable {X : Cx} {W : WX} {c c1 c2 c3 : Nat} {Γ : Gm} {post : D → Prop} {xp : XP} {a b e : Expr} {pos : Pos}
theorem o2_mulS {z : Str} {n : Int} (h : 0 ≤ n ∧ n < 2 ^ 62 ∧ z.length * n.toNat ≤ sizeLine) (q : post (.str (repS z n))) : O2 X W 0 (binaryOp .Mult) (.str z) (.int n) post xp :=
  o2_of (d := .str (repS z n)) op_mulS (fun u H x y Q rx ry k => ⟨z, n, rx, ry, h.1, h.2.1, h.2.2, k _ rfl⟩) q
theorem de_gstrE {x : Str} {i : Str} (hm : ∃ t, X.mg x = some (.str i t)) (q : post (.str i)) (hg : Gl X x := by rfl) (hd : (x == ("__debug__" : Str)) = false := by decide) : DE X W 0 (.Name x pos) Γ post xp := by
  obtain ⟨t, h⟩ := hm
  exact de_gstr h q hg hd
theorem de_gintE {x : Str} {i : Int} (hm : ∃ t, X.mg x = some (.int i t)) (q : post (.int i)) (hg : Gl X x := by rfl) (hd : (x == ("__debug__" : Str)) = false := by decide) : DE X W 0 (.Name x pos) Γ post xp := by
  obtain ⟨t, h⟩ := hm
  exact de_gint h q hg hd
/-- isinstance(x, n), n a built-in type -/
theorem oc_isT {d : D} {m n : String} {k : Bool} (hd : tyD d = some (.type m)) (hk : PySem.W.kitOne X.K (.type m) (.type n) = some k) (q : post (.bl k)) : OC X W 0 (.builtin "isinstance") [d, .ty n] post xp :=
  oc_isi hd (fun C fs e => by subst e; cases hd) (.inr ⟨n, rfl, rfl⟩) hk q
theorem oc_isTO {C : Addr} {fs : List (Str × D)} {n : String} {k : Bool} (hi : InsT X.K C) (hk : PySem.W.kitOne X.K (.ref C) (.type n) = some k) (q : post (.bl k)) : OC X W 0 (.builtin "isinstance") [.obj C fs, .ty n] post xp :=
  oc_isi rfl (fun C' fs e => by cases e; exact hi) (.inr ⟨n, rfl, rfl⟩) hk q
theorem oc_isC {d : D} {m : String} {C : Addr} {k : Bool} (hd : tyD d = some (.type m)) (hk : PySem.W.kitOne X.K (.type m) (.ref C) = some k) (q : post (.bl k)) : OC X W 0 (.builtin "isinstance") [d, .ref C] post xp :=
  oc_isi hd (fun C fs e => by subst e; cases hd) (.inl ⟨C, rfl, rfl⟩) hk q
theorem oc_isCO {C C' : Addr} {fs : List (Str × D)} {k : Bool} (hi : InsT X.K C) (hk : PySem.W.kitOne X.K (.ref C) (.ref C') = some k) (q : post (.bl k)) : OC X W 0 (.builtin "isinstance") [.obj C fs, .ref C'] post xp :=
  oc_isi rfl (fun C' fs e => by cases e; exact hi) (.inl ⟨C', rfl, rfl⟩) hk q
end
/-! ### joined texts, words -/
theorem joinL_nil : ∀ l : List (List Nat), TL.joinL [] l = l.flatten
  | [] => rfl
  | [p] => by simp [TL.joinL]
  | p :: q :: r => by
    show p ++ ([] ++ TL.joinL [] (q :: r)) = _
    rw [joinL_nil (q :: r)]; simp
theorem cp_join (ws : List Str) : (Txt.join "" ws).cps.toList = (ws.map fun w => w.cps.toList).flatten := by
  rw [TL.join_eq]
  have h := TL.tl_join "" ws
  have e : TL.tl ("" : Str) = [] := by decide +kernel
  rw [e, joinL_nil] at h
  exact h
theorem sum_len (ws : List Str) : (ws.map fun w => w.cps.toList).flatten.length = (ws.map (·.length)).sum := by
  rw [List.length_flatten, List.map_map]
  congr 1
theorem len_join (ws : List Str) : (Txt.join "" ws).length = (ws.map (·.length)).sum := by rw [len_cp, cp_join, sum_len]
/-- the letters of z in their order -/
def wt (z : Str) : Str := ofL (List.replicate (cN 97 z) 97 ++ List.replicate (cN 98 z) 98 ++ List.replicate (cN 99 z) 99)
theorem cp_repS1 (c n : Nat) : (repS ⟨#[c]⟩ (n : Int)).cps.toList = List.replicate n c := by
  unfold repS
  rw [cp_ofL]
  simp
theorem join_wt (z : Str) : Txt.join "" [repS ⟨#[97]⟩ (Txt.count z ⟨#[97]⟩), repS ⟨#[98]⟩ (Txt.count z ⟨#[98]⟩), repS ⟨#[99]⟩ (Txt.count z ⟨#[99]⟩)] = wt z := by
  apply str_ext
  rw [cp_join]
  simp only [count_cN, List.map_cons, List.map_nil, cp_repS1]
  unfold wt
  rw [cp_ofL]
  simp
/-- a text of a word -/
def Tx (z : Str) : Prop := 1 ≤ z.length ∧ z.length ≤ 8 ∧ ∀ ch ∈ z.cps.toList, ch = 97 ∨ ch = 98 ∨ ch = 99
theorem cN_le (c : Nat) (z : Str) : cN c z ≤ z.length := by
  rw [len_cp]; exact List.count_le_length
theorem cN_sum {l : List Nat} (h : ∀ ch ∈ l, ch = 97 ∨ ch = 98 ∨ ch = 99) : l.count 97 + l.count 98 + l.count 99 = l.length := by
  induction l with
  | nil => rfl
  | cons a l ih =>
    have ih := ih fun ch hc => h ch (by simp [hc])
    rcases h a (by simp) with rfl | rfl | rfl <;> simp [List.count_cons] <;> omega
theorem len_wt {z : Str} (h : Tx z) : (wt z).length = z.length := by
  rw [len_cp (wt z), len_cp z]
  unfold wt
  rw [cp_ofL]
  simp only [List.length_append, List.length_replicate]
  exact cN_sum h.2.2
theorem wt_Tx {z : Str} (h : Tx z) : Tx (wt z) := by
  refine ⟨by rw [len_wt h]; exact h.1, by rw [len_wt h]; exact h.2.1, fun ch hc => ?_⟩
  unfold wt at hc
  rw [cp_ofL] at hc
  simp at hc
  omega
/-- a text is its letters' order exactly if sorted gives it -/
theorem wt_perm {z : Str} (h : ∀ ch ∈ z.cps.toList, ch = 97 ∨ ch = 98 ∨ ch = 99) : (wt z).cps.toList.Perm z.cps.toList := by
  unfold wt
  rw [cp_ofL]
  refine List.perm_iff_count.mpr fun a => ?_
  simp only [List.count_append, List.count_replicate]
  unfold cN
  by_cases ha : a ∈ z.cps.toList
  · rcases h a ha with rfl | rfl | rfl <;> simp
  · have := List.count_eq_zero.mpr ha
    by_cases h1 : a = 97
    · subst h1; simp [this]
    by_cases h2 : a = 98
    · subst h2; simp [this]
    by_cases h3 : a = 99
    · subst h3; simp [this]
    have e1 : (97 == a) = false := by simp; omega
    have e2 : (98 == a) = false := by simp; omega
    have e3 : (99 == a) = false := by simp; omega
    rw [e1, e2, e3, this]; simp
/-- one-sign texts -/
def sg (c : Nat) : Str := ⟨#[c]⟩
theorem sg_sorted : ∀ {l : List Nat}, l.Pairwise (· ≤ ·) → sortedS (l.map sg) = true := fun {l} h => by
  refine sortedS_of_pairwise _ ?_
  rw [List.pairwise_map]
  refine h.imp fun {a b} hab => ?_
  rw [ltCps_eq]
  refine decide_eq_false ?_
  show ¬ ([b] < [a])
  rw [List.cons_lt_cons_iff]
  rintro (h | ⟨_, h⟩)
  · exact absurd h (Nat.not_lt.mpr hab)
  · exact absurd h (List.not_lt_nil _)
theorem wt_pw (z : Str) : (wt z).cps.toList.Pairwise (· ≤ ·) := by
  unfold wt
  rw [cp_ofL]
  rw [List.pairwise_append, List.pairwise_append]
  refine ⟨⟨List.pairwise_replicate.mpr (.inr (Nat.le_refl _)), List.pairwise_replicate.mpr (.inr (Nat.le_refl _)), fun a ha b hb => ?_⟩, List.pairwise_replicate.mpr (.inr (Nat.le_refl _)), fun a ha b hb => ?_⟩
  · rw [List.eq_of_mem_replicate ha, List.eq_of_mem_replicate hb]; decide
  · rcases List.mem_append.mp ha with ha | ha
    · rw [List.eq_of_mem_replicate ha, List.eq_of_mem_replicate hb]; decide
    · rw [List.eq_of_mem_replicate ha, List.eq_of_mem_replicate hb]; decide
theorem signs_sg (z : Str) : signs z = (z.cps.toList.map sg).map D.str := by
  unfold signs
  rw [List.map_map]; rfl
theorem join_sg (l : List Nat) : Txt.join "" (l.map sg) = ofL l := by
  apply str_ext
  rw [cp_join, cp_ofL, List.map_map]
  induction l with
  | nil => rfl
  | cons a l ih => simp [sg] at ih ⊢; exact ih
/-- ''.join(sorted(signs)) -/
theorem join_sorted {z : Str} {ys : List Str} (h : ∀ ch ∈ z.cps.toList, ch = 97 ∨ ch = 98 ∨ ch = 99) (p : ys.Perm (z.cps.toList.map sg)) (s : sortedS ys = true) : Txt.join "" ys = wt z := by
  have e : ys = (wt z).cps.toList.map sg := sorted_eq (p.trans ((wt_perm h).map sg).symm) s (sg_sorted (wt_pw z))
  rw [e, join_sg]; rfl
section
variable {X : Cx} {W : WX} {c c1 c2 c3 : Nat} {Γ : Gm} {post : D → Prop} {xp : XP} {a b e : Expr} {pos : Pos}
theorem oc_str_str {z : Str} (q : post (.str z)) : OC X W 0 (.type "str") [.str z] post xp := oc_of SkE.call_str_str fun u n H xs Q A r k => by
  obtain ⟨x, e, rx⟩ := r.one
  exact ⟨z, by rw [e, show x = .str z from rx], k.here (d := .str z) A rfl q⟩
end
/-! ### lists of texts as data of the library -/
theorem pyL_strs : ∀ zs : List Str, pyL (zs.map D.str) = some (zs.map PyData.str)
  | [] => rfl
  | z :: zs => by
    rw [List.map_cons]
    unfold pyL
    rw [pyL_strs zs]; rfl
theorem pyD_strs (zs : List Str) : pyD (.lst (zs.map D.str)) = some (.list (zs.map PyData.str)) := by unfold pyD; rw [pyL_strs]; rfl
theorem lay_strs : ∀ {zs : List Str}, (∀ z ∈ zs, PyData.strOk z = true) → PyData.canLayAll0 (zs.map PyData.str) = true
  | [], _ => rfl
  | z :: zs, h => by
    show (PyData.strOk z && PyData.canLayAll0 (zs.map PyData.str)) = true
    rw [h z (by simp), lay_strs fun z hz => h z (by simp [hz])]; rfl
theorem dep_strs : ∀ zs : List Str, PyData.depthAll (zs.map PyData.str) = 0
  | [] => rfl
  | z :: zs => by
    show max 0 (PyData.depthAll (zs.map PyData.str)) = 0
    rw [dep_strs zs]; rfl
theorem shaped_strs {zs : List Str} (h : ∀ z ∈ zs, PyData.strOk z = true) : SeqAt.shaped (.list (zs.map PyData.str)) = true := by
  unfold SeqAt.shaped
  show (PyData.canLayAll0 (zs.map PyData.str) && decide (PyData.depthAll (zs.map PyData.str) + 1 ≤ 64)) = true
  rw [lay_strs h, dep_strs]; rfl
theorem eqvAll_strs : ∀ as bs : List Str, PyData.eqvAll (as.map PyData.str) (bs.map PyData.str) = decide (as = bs)
  | [], [] => rfl
  | [], _ :: _ => rfl
  | _ :: _, [] => rfl
  | a :: as, b :: bs => by
    show ((a == b) && PyData.eqvAll (as.map PyData.str) (bs.map PyData.str)) = _
    rw [eqvAll_strs as bs]
    by_cases h : a = b
    · subst h; by_cases h2 : as = bs <;> simp [h2]
    · simp [h]
theorem eqv_strs (as bs : List Str) : PyData.eqv (.list (as.map PyData.str)) (.list (bs.map PyData.str)) = decide (as = bs) := eqvAll_strs as bs
theorem Tx.ok {z : Str} (h : Tx z) : PyData.strOk z = true := by
  unfold PyData.strOk
  rw [Array.all_eq_true']
  intro ch hc
  have := h.2.2 ch (by simpa using hc)
  simp
  omega
/-! ### isinstance's answers, from what the head tells -/
theorem kit_self {K : PySem.W.Frag} {C : Addr} : PySem.W.kitOne K (.ref C) (.ref C) = some true := by
  unfold PySem.W.kitOne
  rw [if_pos (beq_self_eq_true _)]
theorem kit_ref {K : PySem.W.Frag} {n : String} {C : Addr} {b : Bool} (ic : PySem.W.isClsIn K C = true) (ty : PySem.W.typeIn K (.ref C) = some (.type "type")) (sub : PySem.W.subIn K (.type n) (.ref C) = some b) : PySem.W.kitOne K (.type n) (.ref C) = some b := by
  unfold PySem.W.kitOne
  rw [if_neg (by rw [beq_iff_eq]; intro z; cases z)]
  unfold PySem.W.kitCls
  have hi : (PySem.W.clsIn K C).isSome = true := ic
  show (if ((PySem.W.clsIn K C).isSome && PySem.W.typeIn K (.ref C) == some (.type "type")) = true then PySem.W.subIn K (.type n) (.ref C) else none) = some b
  rw [hi, ty, if_pos (by simp), sub]
theorem OpT.of {K : PySem.W.Frag} {C g : Addr} {nm T : String} {s : Str} (first : PySem.W.selfFirst K C = true) (hr : PySem.W.findIn K (.ref C) s = some (some (.ref g))) (e : dunderR nm = s) (sub : PySem.W.subIn K (.type T) (.ref C) = some false)
    (t1 : (PySem.W.findIn K (.type T) (PySem.dunder nm)).isSome = true := by kernel_rfl) (t2 : (PySem.W.findIn K (.type T) (dunderR nm)).isSome = true := by kernel_rfl) : OpT K C nm T := ⟨first, by rw [e, hr], t1, t2, sub⟩
theorem OpT.ofN {K : PySem.W.Frag} {C : Addr} {nm T : String} {s : Str} (first : PySem.W.selfFirst K C = true) (hr : PySem.W.findIn K (.ref C) s = some none) (e : dunderR nm = s) (sub : PySem.W.subIn K (.type T) (.ref C) = some false)
    (t1 : (PySem.W.findIn K (.type T) (PySem.dunder nm)).isSome = true := by kernel_rfl) (t2 : (PySem.W.findIn K (.type T) (dunderR nm)).isSome = true := by kernel_rfl) : OpT K C nm T := ⟨first, by rw [e, hr], t1, t2, sub⟩
end Dx
-- DxT
namespace Dx
open PySem PySem.Spec PyProof.Rows L2
/-! ### lists of ints as data of the library; the pen's cell -/
theorem dpA_ints {K : PySem.W.Frag} {H : Hp} : ∀ ns : List Int, DpAll K H (ns.map V.int) (ns.map PyData.int)
  | [] => .nil
  | n :: ns => .cons (.int n) (dpA_ints ns)
theorem lay_ints : ∀ ns : List Int, PyData.canLayAll0 (ns.map PyData.int) = true
  | [] => rfl
  | n :: ns => by
    show (true && PyData.canLayAll0 (ns.map PyData.int)) = true
    rw [lay_ints ns]; rfl
theorem dep_ints : ∀ ns : List Int, PyData.depthAll (ns.map PyData.int) = 0
  | [] => rfl
  | n :: ns => by
    show max 0 (PyData.depthAll (ns.map PyData.int)) = 0
    rw [dep_ints ns]; rfl
theorem shaped_ints (ns : List Int) : SeqAt.shaped (.list (ns.map PyData.int)) = true := by
  unfold SeqAt.shaped
  show (PyData.canLayAll0 (ns.map PyData.int) && decide (PyData.depthAll (ns.map PyData.int) + 1 ≤ 64)) = true
  rw [lay_ints, dep_ints]; rfl
theorem eqv_nil (ns : List Int) : PyData.eqv (.list (ns.map PyData.int)) (.list []) = ns.isEmpty := by
  cases ns <;> rfl
section
variable {X : Cx} {W : WX} {c c1 c2 c3 : Nat} {Γ : Gm} {post : D → Prop} {O : Out} {xp : XP} {a b e : Expr} {pos : Pos} {k : Nat}
/-- if pen[0] != []: cell = pen[0][int(taken) % len(pen[0])] -/
theorem ds_penIf (i t l : Nat) {x y z : Str} {p1 p2 p3 p4 p5 p6 p7 p8 p9 p10 p11 p12 p13 p14 p15 p16 p17 p18 p19 p20 p21 : Pos} {j1 j2 j3} {tk : Int} (hr : RoomG k X.A) (hi' : X.mg "int" = none) (hl' : X.mg "len" = none) (hN : X.N.Nodup)
    (g : Γ[i]? = some (.va .pen)) (gt : Γ[t]? = some (.va (.int tk))) (h : (∀ r, Cel r → O.nx (Γ.set l (.va (.int r)))) ∧ O.nx Γ)
    (hi : X.N[i]? = some x := by rfl) (ht : X.N[t]? = some y := by rfl) (hl : X.N[l]? = some z := by rfl)
    (hv : Vis X.env.scope x := by first | exact Or.inl rfl | exact Or.inr (Or.inl rfl) | exact Or.inr (Or.inr rfl)) (hvy : Vis X.env.scope y := by first | exact Or.inl rfl | exact Or.inr (Or.inl rfl) | exact Or.inr (Or.inr rfl)) (hlz : X.env.scope.names.lookup z = some .local := by rfl)
    (hd : (x == ("__debug__" : Str)) = false := by decide) (hcd : (x == ("__classdict__" : Str)) = false := by decide) (hdy : (y == ("__debug__" : Str)) = false := by decide) (hcdy : (y == ("__classdict__" : Str)) = false := by decide)
    (hx1 : PlainIx (.Constant (.int 0) j1 p2) := by exact fun _ _ => rfl) (hx2 : PlainIx (.Constant (.int 0) j2 p8) := by exact fun _ _ => rfl) (hx3 : PlainIx (.Constant (.int 0) j3 p15) := by exact fun _ _ => rfl)
    (hx4 : PlainIx (.BinOp (.Call (.Name "int" p10) [.Name y p11] [] p12) .Mod (.Call (.Name "len" p13) [.Subscript (.Name x p14) (.Constant (.int 0) j3 p15) p16] [] p17) p18) := by exact fun _ _ => rfl)
    (hgi : Gl X "int" := by rfl) (hgl : Gl X "len" := by rfl)
    (hs : swapsWith (.Subscript (.Subscript (.Name x p7) (.Constant (.int 0) j2 p8) p9) (.BinOp (.Call (.Name "int" p10) [.Name y p11] [] p12) .Mod (.Call (.Name "len" p13) [.Subscript (.Name x p14) (.Constant (.int 0) j3 p15) p16] [] p17) p18) p19) (some (.Name z p6)) p20.line X.env = pure false := by first | kernel_rfl | rfl)
    (hst1 : starEach [.Name y p11] X.env = (false, eval (.Name y p11) X.env) :: starEach [] X.env := by rfl)
    (hst2 : starEach [.Subscript (.Name x p14) (.Constant (.int 0) j3 p15) p16] X.env = (false, eval (.Subscript (.Name x p14) (.Constant (.int 0) j3 p15) p16) X.env) :: starEach [] X.env := by rfl) :
    DSt X W 0 (.If (.Compare (.Subscript (.Name x p1) (.Constant (.int 0) j1 p2) p3) [.NotEq] [.List [] p4] p5) [.Assign [.Name z p6] (.Subscript (.Subscript (.Name x p7) (.Constant (.int 0) j2 p8) p9) (.BinOp (.Call (.Name "int" p10) [.Name y p11] [] p12) .Mod (.Call (.Name "len" p13) [.Subscript (.Name x p14) (.Constant (.int 0) j3 p15) p16] [] p17) p18) p19) p20] [] p21) Γ O xp := fun u M H0 n H σ D B S hn k' => by
  obtain ⟨F, S⟩ := S
  have hu : X.A.units + 64 < cLine := by have := hr.room.un; omega
  refine tws_of (ps_if (pt_cmpR (op_neD hu) (pe_ix ix_list (pe_var hi hv hd hcd) pe_int hx1) (pe_lst pa_nil) (nomark _))
    (pss_cons (ps_set hN hl (.inl hlz) (pe_ix ix_list (pe_ix ix_list (pe_var hi hv hd hcd) pe_int hx2) (pe_op op_mod (pe_callTy call_int1 hgi hi' PyProof.Rows.boot_int (pa_cons (pe_var ht hvy hdy hcdy) pa_nil hst1) (by decide) (by decide) hst1 (by rfl)) (pe_callB call_len_seq hgl hl' PySem.boot_len (pa_cons (pe_ix ix_list (pe_var hi hv hd hcd) pe_int hx3) pa_nil hst2) (by decide) (by decide) hst2 (by rfl))) hx4) hs (.inr hlz)) pss_nil) pss_nil) ?_
  obtain ⟨ns, tt, r0, a1, a2, a3, a4, a5, a6, a7, a8⟩ := S.at_.pen
  have a1 : H u.p = some (.lst [.ref u.cl, .int tt, .int r0]) := a1
  have a2 : H u.cl = some (.lst (ns.map V.int)) := a2
  have gp := pen_at (u := ⟨F, u.p, u.cl⟩) S.at_ g
  have gp : σ[i]? = some (some (.ref u.p)) := gp
  obtain ⟨vt, ht1, ht2⟩ := S.at_.sl t _ gt
  have ht1 : σ[t]? = some (some (.int tk)) := by rw [ht1, show vt = .int tk from ht2]
  refine ⟨_, gp, u.p, _, 0, .ref u.cl, rfl, rfl, SqL.of a1, rfl, ?_⟩
  refine ⟨by decide, fun q hq => ?_⟩
  have n1 : upd H q (.lst []) u.p = some (.lst [.ref u.cl, .int tt, .int r0]) := by rw [upd_ne (ne_of_none a1 hq)]; exact a1
  have n2 : upd H q (.lst []) u.cl = some (.lst (ns.map V.int)) := by rw [upd_ne (ne_of_none a2 hq)]; exact a2
  refine ⟨.list (ns.map PyData.int), .list [], .lst (SqL.of n2) (dpA_ints ns), .lst (SqL.of upd_same) .nil, shaped_ints ns, by decide +kernel, !ns.isEmpty, by rw [eqv_nil], ?_⟩
  have S1 : S5 u M H0 F n (upd H q (.lst [])) σ Γ := S.step B (Exp.new hq) (S.at_.toAl.newp hq)
  cases he : ns.isEmpty with
  | true => exact k'.nx Γ σ _ ⟨F, S1⟩ h.2
  | false =>
    have hlen : 0 < ns.length := by
      cases ns with
      | nil => simp at he
      | cons a b => simp
    refine ⟨_, gp, u.p, _, 0, .ref u.cl, rfl, rfl, SqL.of n1, rfl, ?_⟩
    refine ⟨.int tk, ht1, .inl ⟨tk, rfl, ?_⟩⟩
    refine ⟨_, gp, u.p, _, 0, .ref u.cl, rfl, rfl, SqL.of n1, rfl, ?_⟩
    refine ⟨u.cl, ns.map V.int, rfl, .inl (SqL.of n2), ?_⟩
    have hpos : (0 : Int) < ((ns.map V.int).length : Int) := by rw [List.length_map]; omega
    refine ⟨tk, _, rfl, rfl, hpos, ?_⟩
    have hm0 := Int.emod_nonneg tk (Int.ne_of_gt hpos)
    have hm1 := Int.emod_lt_of_pos tk hpos
    rw [List.length_map] at hm0 hm1
    have hat : ∃ r, r ∈ ns ∧ atI (ns.map V.int) (tk % ((ns.map V.int).length : Int)) = some (.int r) := by
      rw [List.length_map]
      obtain ⟨m, hm⟩ : ∃ m : Nat, tk % (ns.length : Int) = (m : Int) := ⟨(tk % (ns.length : Int)).toNat, by omega⟩
      rw [hm] at hm1 ⊢
      have hml : m < ns.length := by omega
      refine ⟨ns[m], List.getElem_mem hml, ?_⟩
      unfold atI
      have : ixN (ns.map V.int).length (m : Int) = some m := by
        unfold ixN
        rw [List.length_map]
        simp
        try omega
      rw [this]
      simp [hml]
    obtain ⟨r, hr1, hr2⟩ := hat
    refine ⟨u.cl, ns.map V.int, _, .int r, rfl, rfl, SqL.of n2, hr2, ?_⟩
    exact k'.nx _ _ _ ⟨F, S1.setVa (d := .int r) (v := .int r) rfl⟩ (h.1 r (a8 r hr1))
end
end Dx
-- DxU
namespace Dx
open PySem PySem.Spec PyProof.Rows L2
/-! ### list(text) -/
def signsV (z : Str) : List V := z.cps.toList.map fun ch => V.str ⟨#[ch]⟩
theorem vals_at : ∀ {vs : List V} {us : List Value}, vs.length = us.length → (∀ (i : Nat) (v : V) (u : Value), vs[i]? = some v → us[i]? = some u → RelV v u) → Vals vs us
  | [], [], _, _ => .nil
  | v :: vs, u :: us, hl, h => .cons (h 0 v u rfl rfl) (vals_at (by simpa using hl) fun i v' u' a b => h (i + 1) v' u' (by simpa using a) (by simpa using b))
theorem call_list_S {X : Cx} (hc : X.calm = true) : CallR X (.type "list") (fun xs H Q => ∃ z, xs = [.str z] ∧ z.length ≤ sizeLine ∧ ∀ l, H l = none → Q (.ref l) (upd H l (.lst (signsV z)))) := by
  intro pins s σ H xs us Q I r h
  obtain ⟨z, rfl, hz, q⟩ := h
  obtain ⟨u, rfl, t, rfl⟩ := vals1 r
  have hz' : z.cps.size ≤ sizeLine := hz
  refine call_list_str (I.ok.hd hc) z t (fun h' tk acc c' kp e hi => ?_) hz'
  have rv : Vals (signsV z) acc.toList := by
    refine vals_at (by unfold signsV; simp [hi.1]) fun i v u hv hu => ?_
    unfold signsV at hv
    rw [List.getElem?_map] at hv
    cases e1 : z.cps.toList[i]? with
    | none => rw [e1] at hv; cases hv
    | some ch =>
      rw [e1] at hv; cases hv
      obtain ⟨c2, u2, hc2, hx2⟩ := hi.2 i u (by simpa using hu)
      have : z.cps[i]? = some ch := by simpa using e1
      rw [this] at hc2; cases hc2
      exact ⟨u2, hx2⟩
  have ok : ObjOk X.prog X.w (upd H s.heap.objs.size (.lst (signsV z))) h' s.heap.objs.size (.lst (signsV z)) := ⟨by unfold signsV; simpa using hz', acc.toList, c', rv, by simpa using e⟩
  exact ⟨.ref s.heap.objs.size, _, I.laid (t' := tk) kp (Nat.le_refl _) ok, rfl, q _ (I.hok.fresh (Nat.le_refl _))⟩
theorem rep_signs {u : U} {H : Hp} (z : Str) : RepL u H (signs z) (signsV z) := by
  unfold signs signsV
  generalize z.cps.toList = l
  induction l with
  | nil => exact RepL.nil
  | cons a l ih => exact RepL.cons rfl ih
section
variable {X : Cx} {W : WX} {c c1 c2 c3 : Nat} {Γ : Gm} {post : D → Prop} {O : Out} {xp : XP} {a b e : Expr} {pos : Pos}
/-- x, y = list(e), [], both to be changed -/
theorem ds_par2 (i j : Nat) {x y : Str} {px py pt q' lp lp2 : Pos} {kt k2 pt2} (hN : X.N.Nodup) (hij : i ≠ j) (hm : X.mg "list" = none)
    (h : DE X W c e Γ (fun d => (∃ ds, (d = .lst ds ∨ d = .tup ds) ∧ O.nx ((Γ.set i (.li ds)).set j (.li []))) ∨ ∃ z, d = .str z ∧ z.length ≤ sizeLine ∧ O.nx ((Γ.set i (.li (signs z))).set j (.li []))) xp) (hc : X.calm = true := by rfl) (hg : Gl X "list" := by rfl) (hi : X.N[i]? = some x := by rfl) (hj : X.N[j]? = some y := by rfl)
    (hx : X.env.scope.names.lookup x = some .local := by rfl) (hy : X.env.scope.names.lookup y = some .local := by rfl)
    (hw : swappedStores [.Tuple [.Name x px, .Name y py] kt pt] (.Tuple [.Call (.Name "list" q') [e] [] lp, .List [] lp2] k2 pt2) X.env = pure (some [x, y]) := by rfl)
    (hs : swapsWithSole [.Tuple [.Name x px, .Name y py] kt pt] (.Tuple [.Call (.Name "list" q') [e] [] lp, .List [] lp2] k2 pt2) pos.line X.env = pure false := by first | kernel_rfl | rfl)
    (he : starEach [e] X.env = (false, eval e X.env) :: starEach [] X.env := by rfl)
    (he2 : starEach [.Call (.Name "list" q') [e] [] lp, .List [] lp2] X.env = (false, eval (.Call (.Name "list" q') [e] [] lp) X.env) :: starEach [.List [] lp2] X.env := by rfl) (he3 : starEach [.List [] lp2] X.env = (false, eval (.List [] lp2) X.env) :: starEach [] X.env := by rfl) :
    DSt X W c (.Assign [.Tuple [.Name x px, .Name y py] kt pt] (.Tuple [.Call (.Name "list" q') [e] [] lp, .List [] lp2] k2 pt2) pos) Γ O xp := fun u M H0 n H σ Ek B S hn k => by
  obtain ⟨F, S⟩ := S
  refine tws_of (ps_par hc hN hi hj hij hx hy (pa_cons (pe_callTy (CallR.or call_list_of (call_list_S hc)) hg hm PyProof.Rows.boot_list (pa_cons (tw_pe X e) pa_nil he) (by decide) (by decide) he (by rfl)) (pa_cons (pe_lst pa_nil) pa_nil he3) he2) hw hs) ?_
  refine h ⟨F, u.p, u.cl⟩ n H σ _ S.at_ hn (fun v d H1 e1 p1 r1 hd => ?_) (k.kx (F := F) B _ rfl rfl S.up S.ex (Nat.le_refl _))
  have main : ∀ (ds : List D) (vs : List V) (l : Addr), RepL ⟨F, u.p, u.cl⟩ H1 ds vs → O.nx ((Γ.set i (.li ds)).set j (.li [])) → H1 l = none → ([] : List V).length ≤ sizeLine ∧ ∀ q, upd H1 l (.lst vs) q = none → ∃ v w, [V.ref l, V.ref q] = [v, w] ∧ Ek.nx ((σ.set i (some v)).set j (some w)) (upd (upd H1 l (.lst vs)) q (.lst [])) := by
    intro ds vs l rl q hl
    refine ⟨by decide, fun q' hq => ⟨_, _, rfl, ?_⟩⟩
    have S1 := (S.step B e1 p1).newOwn (i := i) B rl hl
    exact k.nx _ _ _ ⟨_, S1.newOwn (i := j) (vs := []) (ds := []) B RepL.nil hq⟩ q
  rcases hd with ⟨ds, hd, q⟩ | ⟨z, rfl, hz, q⟩
  · rcases hd with rfl | rfl
    · obtain ⟨a, vs, ev, f, g, rl⟩ := r1.lstE
      exact .inl ⟨a, vs, by rw [ev], .inl (SqL.of g), fun l hl => main ds vs l rl q hl⟩
    · obtain ⟨a, vs, ev, f, g, rl⟩ := r1.tupE
      exact .inl ⟨a, vs, by rw [ev], .inr (SqT.of g), fun l hl => main ds vs l rl q hl⟩
  · exact .inr ⟨z, by rw [show v = .str z from r1], hz, fun l hl => main (signs z) (signsV z) l (rep_signs z) q hl⟩
end
end Dx
-- DxV
namespace Dx
open PySem PySem.Spec PyProof.Rows L2
/-! ### cuts -/
theorem cutD_to {ds : List D} {i : Int} (h0 : 0 ≤ i) (h1 : i ≤ ds.length) : cutD ds none (some i) = ds.take i.toNat := by
  obtain ⟨m, rfl⟩ : ∃ m : Nat, i = (m : Int) := ⟨i.toNat, by omega⟩
  have hm : m ≤ ds.length := by omega
  unfold cutD
  rw [HT.sIx_none, HT.sIx_nat]
  simp [Nat.min_eq_left hm]
theorem cutD_from {ds : List D} {i : Int} (h0 : 0 ≤ i) (h1 : i ≤ ds.length) : cutD ds (some i) none = ds.drop i.toNat := by
  obtain ⟨m, rfl⟩ : ∃ m : Nat, i = (m : Int) := ⟨i.toNat, by omega⟩
  have hm : m ≤ ds.length := by omega
  unfold cutD
  rw [HT.sIx_none, HT.sIx_nat]
  simp only [Nat.min_eq_left hm, Int.toNat_natCast]
  rw [List.take_of_length_le]
  simp
theorem cutS_to {z : Str} {i : Int} (h0 : 0 ≤ i) (h1 : i ≤ z.length) : cutS z none (some i) = ofL (z.cps.toList.take i.toNat) := by
  obtain ⟨m, rfl⟩ : ∃ m : Nat, i = (m : Int) := ⟨i.toNat, by omega⟩
  have hm : m ≤ z.length := by omega
  unfold cutS ofL
  rw [HT.sIx_none, HT.sIx_nat]
  simp [Nat.min_eq_left hm]
theorem cutS_from {z : Str} {i : Int} (h0 : 0 ≤ i) (h1 : i ≤ z.length) : cutS z (some i) none = ofL (z.cps.toList.drop i.toNat) := by
  obtain ⟨m, rfl⟩ : ∃ m : Nat, i = (m : Int) := ⟨i.toNat, by omega⟩
  have hm : m ≤ z.length := by omega
  unfold cutS ofL
  rw [HT.sIx_none, HT.sIx_nat]
  simp only [Nat.min_eq_left hm, Int.toNat_natCast]
  rw [List.take_of_length_le]
  rw [len_cp]; simp
/-- lists of texts, each so -/
def Lp (p : Str → Prop) (m : Nat) (ds : List D) : Prop := ds.length ≤ m ∧ ∀ d ∈ ds, ∃ z, d = D.str z ∧ p z
theorem Lp.strs {p : Str → Prop} {m : Nat} {ds : List D} (h : Lp p m ds) : ∃ zs : List Str, ds = zs.map D.str ∧ zs.length ≤ m ∧ ∀ z ∈ zs, p z := by
  obtain ⟨zs, e, hz⟩ := strs_of h.2
  exact ⟨zs, e, by have := h.1; rw [e] at this; simpa using this, hz⟩
theorem Lp.of {p : Str → Prop} {m : Nat} {zs : List Str} (hl : zs.length ≤ m) (h : ∀ z ∈ zs, p z) : Lp p m (zs.map D.str) := ⟨by simpa using hl, fun d hd => by
  obtain ⟨z, hz, rfl⟩ := List.mem_map.mp hd
  exact ⟨z, rfl, h z hz⟩⟩
theorem Lp.app {p : Str → Prop} {m n k : Nat} {ds es : List D} (h : Lp p m ds) (h2 : Lp p n es) (hk : ds.length + es.length ≤ k) : Lp p k (ds ++ es) := ⟨by simpa using hk, fun d hd => by
  rcases List.mem_append.mp hd with h' | h'
  · exact h.2 d h'
  · exact h2.2 d h'⟩
theorem Lp.take {p : Str → Prop} {m : Nat} {ds : List D} (h : Lp p m ds) (n : Nat) : Lp p m (ds.take n) := ⟨by have := h.1; rw [List.length_take]; omega, fun d hd => h.2 d (List.mem_of_mem_take hd)⟩
theorem Lp.drop {p : Str → Prop} {m : Nat} {ds : List D} (h : Lp p m ds) (n : Nat) : Lp p m (ds.drop n) := ⟨by have := h.1; rw [List.length_drop]; omega, fun d hd => h.2 d (List.mem_of_mem_drop hd)⟩
theorem Lp.one {p : Str → Prop} {z : Str} (h : p z) : Lp p 1 [D.str z] := ⟨by simp, fun d hd => ⟨z, List.mem_singleton.mp hd, h⟩⟩
theorem at_mem {α : Type} {es : List α} {i : Int} (h0 : -(es.length : Int) ≤ i) (h1 : i < es.length) : ∃ d, d ∈ es ∧ atI es i = some d := by
  by_cases hi : 0 ≤ i
  · obtain ⟨m, rfl⟩ : ∃ m : Nat, i = (m : Int) := ⟨i.toNat, by omega⟩
    have hm : m < es.length := by omega
    refine ⟨es[m], List.getElem_mem hm, ?_⟩
    unfold atI ixN
    simp [hm]
  · have hm : (i + es.length).toNat < es.length := by omega
    refine ⟨es[(i + es.length).toNat], List.getElem_mem hm, ?_⟩
    unfold atI ixN
    rw [if_neg hi, if_pos h0]
    simp
section
variable {X : Cx} {W : WX} {c c1 c2 c3 : Nat} {Γ : Gm} {post : D → Prop} {xp : XP} {a b e : Expr} {pos : Pos} {k : Nat}
/-- texts' lists compared -/
theorem o2_eqLS {as bs : List Str} (hr : RoomG k X.A) (h1 : ∀ z ∈ as, PyData.strOk z = true) (h2 : ∀ z ∈ bs, PyData.strOk z = true) (q : post (.bl (decide (as = bs)))) : O2 X W 0 (compareOp .Eq) (.lst (as.map D.str)) (.lst (bs.map D.str)) post xp :=
  o2_eqD hr (pyD_strs as) (pyD_strs bs) (shaped_strs h1) (shaped_strs h2) (by rw [eqv_strs]; exact q)
theorem o2_neLS {as bs : List Str} (hr : RoomG k X.A) (h1 : ∀ z ∈ as, PyData.strOk z = true) (h2 : ∀ z ∈ bs, PyData.strOk z = true) (q : post (.bl (!decide (as = bs)))) : O2 X W 0 (compareOp .NotEq) (.lst (as.map D.str)) (.lst (bs.map D.str)) post xp :=
  o2_neD hr (pyD_strs as) (pyD_strs bs) (shaped_strs h1) (shaped_strs h2) (by rw [eqv_strs]; exact q)
/-- if t: suite (no else), the rest told once -/
theorem ds_ifK {O : Out} {t : Expr} {as : List Stmt} (h : DT X W c1 t (shG Γ) (fun k => k = true → DB X W c2 as Γ O xp) xp) (q : O.nx Γ) : DSt X W (c1 + max c2 0) (.If t as [] pos) Γ O xp := ds_if (dt_imp h fun k hk => ⟨hk, fun _ => db_nil q⟩)
end
end Dx
-- K51a
namespace K51
open PySem L2 Dx
local macro_rules | `(tactic| walk_at "nn") => `(tactic| iterate 24 (try ((with_reducible show Nat); rotate_left)))
local macro_rules | `(tactic| walk_at "dz") => `(tactic| ((all_goals (try (with_reducible exact (0 : Nat)))); (all_goals first | decide | omega)))
def top (i : Nat) : Stmt := PySem.Challenge.pw_everystop_k51_rows_alike.main.body.getD i (.Pass ⟨0, 0, 0, 0⟩)
structure TX (mg : Str → Option Value) (CW CR : Addr) : Prop where
  int : mg "int" = none
  len : mg "len" = none
  abs : mg "abs" = none
  isinstance : mg "isinstance" = none
  str : mg "str" = none
  all : mg "all" = none
  list : mg "list" = none
  tuple : mg "tuple" = none
  range : mg "range" = none
  sorted : mg "sorted" = none
  enumerate : mg "enumerate" = none
  repr : mg "repr" = none
  lets : ∃ t, mg "LETTERS_words" = some (.str "abc" t)
  most : ∃ t, mg "MOST_LETTERS" = some (.int 8 t)
  mostW : ∃ t, mg "MOST_WORDS" = some (.int 12 t)
  Word : mg "Word" = some (.ref CW)
  Row : mg "Row" = some (.ref CR)
structure KF (K : PySem.W.Frag) (CW CR : Addr) : Prop where
  cw : Cls K CW
  tx : NoAttr K CW "text"
  iw : InsT K CW
  ksw : PySem.W.kitOne K (.type "str") (.ref CW) = some false
  kww : PySem.W.kitOne K (.ref CW) (.ref CW) = some true
  cr : Cls K CR
  ws : NoAttr K CR "words"
abbrev wdD (CW : Addr) (z : Str) : D := .obj CW [("text", .str z)]
abbrev rwD (CW CR : Addr) (zs : List Str) : D := .obj CR [("words", .tup (zs.map (wdD CW)))]
section
variable {P : Program} {w : World} {K : PySem.W.Frag} {mg : Str → Option Value} {base : Heap} {CW CR : Addr}
theorem abc_mem {ch : Nat} (h : ch = 97 ∨ ch = 98 ∨ ch = 99) : decide (ch ∈ ("abc" : Str).cps.toList) = true := by
  rcases h with rfl | rfl | rfl <;> decide +kernel
abbrev sIsText : Stmt := top 15
theorem scIsText : FnScope ["value", "sign"] ["value"] (defScope sIsText) := ⟨rfl, rfl, rfl, by decide +kernel, rfl, by decide +kernel, by decide +kernel⟩
def spIsText : SpD := fun ds post => ∃ z, ds = [.str z] ∧ Tx z ∧ post (.bl true)
theorem signs_mem {z : Str} {d : D} (h : d ∈ signs z) : ∃ ch ∈ z.cps.toList, d = .str ⟨#[ch]⟩ := by
  unfold signs at h
  obtain ⟨ch, h1, h2⟩ := List.mem_map.mp h
  exact ⟨ch, h1, h2.symm⟩
theorem ok_is_text {f : Addr} {fd : FuncData} (F : Fun K "is_text" "is_text" sIsText f fd) (T : TX mg CW CR) : FnG P w K mg base CX0 1 f fd ["value"] (spN 1 0 spIsText) := by
  refine fn_of F scIsText rfl (by decide) (fun cdv A outer s H E hr ds post hl hS => ?_)
  obtain ⟨z, rfl, ⟨h1, h2, h3⟩, hp⟩ := hS
  refine' db_le (db_cons (ds_ifF ?_)) ?_; walk_at "nn"
  · refine' dt_w (dw_or (dt_not (dt_val (de_callB T.isinstance PyProof.Rows.boot_isinstance (da_cons (de_var 0 rfl (da_cons (de_gty T.str PyProof.Rows.boot_str (da_nil ?_))))))))); walk_at "nn"
    refine' oc_isT rfl rfl (ob_bl ?_); walk_at "nn"
    refine' ⟨fun h => ?_, fun h => by cases h⟩
    refine' dw_one (dt_not (dt_chain (de_int (de_callB T.len PySem.boot_len (da_cons (de_var 0 rfl (da_nil ?_))))))); walk_at "nn"
    refine' oc_len_str (sz9 (by omega)) ?_
    refine' ⟨true, ?_, fun h => ?_, fun h => by cases h⟩; walk_at "nn"
    · refine' o2_le ?_; rw [decide_eq_true (by omega)]
    refine' de_gintE T.most (o2_le (PB.i ?_)); walk_at "nn"
    rw [decide_eq_true (by omega)]
    refine' ⟨rfl, db_nil (db_cons (ds_ret ?_))⟩; walk_at "nn"
    refine' de_callB T.all PyProof.Rows.boot_all (da_cons ?_); walk_at "nn"
    refine' de_dc scIsText.nd (dc_lcM 1 8 (blkOk_by (by kernel_rfl)) (fun _ _ _ _ _ => pg_name scIsText.nd rfl (Or.inl rfl)) ?_); walk_at "nn"
    refine' di_str (de_var 0 rfl ?_); walk_at "nn"
    refine' ⟨_, rfl, ?_, by decide, fun _ => .bl true, ?_, fun d hd s H C cl fp => ?_⟩
    · rw [len_cp] at h2; simpa [signs] using h2
    · refine' da_nil ?_; walk_at "nn"
      rw [show (signs z).map (fun _ => D.bl true) = ((signs z).map fun _ => true).map D.bl by simp]
      refine' oc_all rfl ?_
      have : ((signs z).map fun _ => true).all id = true := by simp
      rw [this]; exact hp
    · obtain ⟨ch, hc, rfl⟩ := signs_mem hd
      refine' de_cmp (de_var 1 rfl (de_gstrE T.lets (o2_inC ?_))); walk_at "nn"
      rw [abc_mem (h3 ch hc)]
    all_goals exact 0
  walk_at "dz"
abbrev sWI : Stmt := inClass (top 16) 2
theorem scWI : FnScope ["self", "text", "letter"] ["self", "text"] (defScope sWI) := ⟨rfl, rfl, rfl, by decide +kernel, rfl, by decide +kernel, by decide +kernel⟩
def spWI : SpI := fun ds post => ∃ z, ds = [.str z] ∧ Tx z ∧ post [("text", .str (wt z))]
def rp (z : Str) : D → D
  | .str l => .str (repS l (Txt.count z l))
  | d => d
theorem ok_WI {f : Addr} {fd : FuncData} (F : Fun K "__init__" "Word.__init__" sWI f fd) (T : TX mg CW CR) (Kf : KF K CW CR) (F1 : FnD P w K mg base 1 "is_text" 1 0 spIsText) : FnG P w K mg base CX0 2 f fd ["self", "text"] (spI CW 2 0 spWI) := by
  refine init_of F scWI rfl (by decide) (fun cdv A outer s H E hr x dx ds post hl hS => ?_)
  obtain ⟨z, rfl, hz, hp⟩ := hS
  refine' db_le (db_cons (ds_ifF ?_)) ?_; walk_at "nn"
  · refine' dt_not (dt_val (de_call F1 hr (by decide) (da_cons (de_var 1 rfl (da_nil ?_))))); walk_at "nn"
    refine' ⟨rfl, z, rfl, hz, ob_bl ?_⟩; walk_at "nn"
    refine' ⟨rfl, db_nil (db_cons (ds_fld 0 rfl Kf.cw Kf.tx (by decide) ?_))⟩; walk_at "nn"
    refine' de_bm PySem.F.plainAttrs_str PySem.F.slot_str_join PySem.F.type_str_join mt_join (de_str ?_); walk_at "nn"
    refine' ⟨rfl, da_cons ?_⟩; walk_at "nn"
    refine' de_dc scWI.nd (dc_lcM 2 3 (blkOk_by (by kernel_rfl)) (fun _ _ _ _ _ => pg_name scWI.nd rfl (Or.inl rfl)) ?_); walk_at "nn"
    refine' di_str (de_gstrE T.lets ?_); walk_at "nn"
    refine' ⟨_, rfl, by decide +kernel, by decide, rp z, ?_, fun d hd s H C cl fp => ?_⟩
    · refine' da_nil ?_; walk_at "nn"
      have e : (signs "abc").map (rp z) = [repS ⟨#[97]⟩ (Txt.count z ⟨#[97]⟩), repS ⟨#[98]⟩ (Txt.count z ⟨#[98]⟩), repS ⟨#[99]⟩ (Txt.count z ⟨#[99]⟩)].map D.str := by
        have : signs "abc" = [.str ⟨#[97]⟩, .str ⟨#[98]⟩, .str ⟨#[99]⟩] := by
          rw [signs_sg]
          have : ("abc" : Str).cps.toList = [97, 98, 99] := by decide +kernel
          rw [this]; rfl
        rw [this]; rfl
      rw [e]
      refine' om_join ?_ ?_
      · simp only [count_cN, List.map_cons, List.map_nil, len_cp, cp_repS1, List.length_replicate, List.length_cons, List.length_nil, List.sum_cons, List.sum_nil]
        have h97 := cN_le 97 z
        have h98 := cN_le 98 z
        have h99 := cN_le 99 z
        have h8 := hz.2.1
        have e0 : ("" : Str).cps.toList.length = 0 := by decide +kernel
        rw [e0]
        omega
      · rw [join_wt]
        refine' db_nil ⟨_, rfl, hp⟩
    · obtain ⟨ch, hc, rfl⟩ := signs_mem hd
      refine' de_bin (de_var 2 rfl ?_); walk_at "nn"
      refine' de_bm PySem.F.plainAttrs_str PySem.F.slot_str_count PySem.F.type_str_count mt_count (de_var 1 rfl ?_); walk_at "nn"
      refine' ⟨rfl, da_cons (de_var 2 rfl (da_nil (om_count ?_)))⟩; walk_at "nn"
      refine' o2_mulS ?_ rfl
      rw [count_cN]
      have := cN_le ch z
      have := hz.2.1
      have e1 : (⟨#[ch]⟩ : Str).length = 1 := rfl
      refine ⟨by omega, by omega, ?_⟩
      rw [e1]
      exact sz9 (by omega)
  walk_at "dz"
abbrev sOf : Stmt := inClass (top 16) 3
theorem scOf : FnScope ["value"] ["value"] (defScope sOf) := ⟨rfl, rfl, rfl, by decide +kernel, rfl, by decide +kernel, by decide +kernel⟩
def spOf (CW : Addr) : SpD := fun ds post => (∃ z, ds = [.str z] ∧ Tx z ∧ post (wdD CW (wt z))) ∨ ∃ z, ds = [wdD CW z] ∧ post (wdD CW z)
theorem ok_of {f : Addr} {fd : FuncData} (F : Fun K "of" "Word.of" sOf f fd) (T : TX mg CW CR) (Kf : KF K CW CR) (F1 : MkD P w K mg base 2 "Word" CW 2 0 spWI) : FnG P w K mg base CX0 4 f fd ["value"] (spN 1 0 (spOf CW)) := by
  refine fn_of F scOf rfl (by decide) (fun cdv A outer s H E hr ds post hl hS => ?_)
  rcases hS with ⟨z, rfl, hz, hp⟩ | ⟨z, rfl, hp⟩
  · refine' db_le (db_cons (ds_if ?_)) ?_; walk_at "nn"
    · refine' dt_val (de_callB T.isinstance PyProof.Rows.boot_isinstance (da_cons (de_var 0 rfl (da_cons (de_gref T.Word (da_nil ?_)))))); walk_at "nn"
      refine' oc_isC rfl Kf.ksw (ob_bl ?_); walk_at "nn"
      refine' ⟨fun h => (by cases h), fun h => db_nil (db_cons (ds_ret ?_))⟩; walk_at "nn"
      refine' de_make F1 hr (by decide) (da_cons (de_var 0 rfl (da_nil ?_))); walk_at "nn"
      exact ⟨rfl, z, rfl, hz, hp⟩
      all_goals exact 0
    walk_at "dz"
  · refine' db_le (db_cons (ds_if ?_)) ?_; walk_at "nn"
    · refine' dt_val (de_callB T.isinstance PyProof.Rows.boot_isinstance (da_cons (de_var 0 rfl (da_cons (de_gref T.Word (da_nil ?_)))))); walk_at "nn"
      refine' oc_isCO Kf.iw Kf.kww (ob_bl ?_); walk_at "nn"
      refine' ⟨fun h => db_cons (ds_ret (de_var 0 rfl hp)), fun h => by cases h⟩; walk_at "nn"
      all_goals exact 0
    walk_at "dz"
abbrev sIsWord : Stmt := top 17
theorem scIsWord : FnScope ["value"] ["value"] (defScope sIsWord) := ⟨rfl, rfl, rfl, by decide +kernel, rfl, by decide +kernel, by decide +kernel⟩
def spIsWord (CW : Addr) : SpD := fun ds post => ∃ z, ds = [wdD CW z] ∧ post (.bl true)
theorem ok_is_word {f : Addr} {fd : FuncData} (F : Fun K "is_word" "is_word" sIsWord f fd) (T : TX mg CW CR) (Kf : KF K CW CR) : FnG P w K mg base CX0 2 f fd ["value"] (spN 1 0 (spIsWord CW)) := by
  refine fn_of F scIsWord rfl (by decide) (fun cdv A outer s H E hr ds post hl hS => ?_)
  obtain ⟨z, rfl, hp⟩ := hS
  refine' db_le (db_cons (ds_ret (de_or ?_))) ?_; walk_at "nn"
  · refine' de_callB T.isinstance PyProof.Rows.boot_isinstance (da_cons (de_var 0 rfl (da_cons (de_gref T.Word (da_nil ?_))))); walk_at "nn"
    refine' oc_isCO Kf.iw Kf.kww ⟨_, rfl, fun h => (by cases h), fun h => hp⟩
  walk_at "dz"
abbrev sTexts : Stmt := top 24
theorem scTexts : FnScope ["words", "word"] ["words"] (defScope sTexts) := ⟨rfl, rfl, rfl, by decide +kernel, rfl, by decide +kernel, by decide +kernel⟩
def spTexts (CW : Addr) : SpD := fun ds post => ∃ zs : List Str, ds = [.tup (zs.map (wdD CW))] ∧ zs.length ≤ 12 ∧ post (.lst (zs.map D.str))
def gt : D → D
  | .obj _ ((_, d) :: _) => d
  | d => d
theorem ok_texts {f : Addr} {fd : FuncData} (F : Fun K "texts_of" "texts_of" sTexts f fd) (Kf : KF K CW CR) : FnG P w K mg base CX0 1 f fd ["words"] (spN 1 0 (spTexts CW)) := by
  refine fn_of F scTexts rfl (by decide) (fun cdv A outer s H E hr ds post hl hS => ?_)
  obtain ⟨zs, rfl, hz, hp⟩ := hS
  refine' db_le (db_cons (ds_ret ?_)) ?_; walk_at "nn"
  · refine' de_dc scTexts.nd (dc_lcM 1 12 (blkOk_by (by kernel_rfl)) (fun _ _ _ _ _ => pg_name scTexts.nd rfl (Or.inl rfl)) ?_); walk_at "nn"
    refine' di_tup (de_var 0 rfl ?_); walk_at "nn"
    refine' ⟨_, rfl, by simpa using hz, by decide, gt, ?_, fun d hd s H C cl fp => ?_⟩
    · rw [List.map_map]; exact hp
    · obtain ⟨z, hz, rfl⟩ := List.mem_map.mp hd
      refine' de_fld (de_var 1 rfl ⟨_, _, _, rfl, Kf.cw, Kf.tx, rfl, rfl⟩)
  walk_at "dz"
abbrev sRI : Stmt := inClass (top 26) 1
theorem scRI : FnScope ["self", "words", "at", "word"] ["self", "words"] (defScope sRI) := ⟨rfl, rfl, rfl, by decide +kernel, rfl, by decide +kernel, by decide +kernel⟩
def spRI (CW : Addr) : SpI := fun ds post => ∃ zs : List Str, ds = zs.map (wdD CW) ∧ zs.length ≤ 12 ∧ post [("words", .tup (zs.map (wdD CW)))]
theorem nums_mem {ds : List D} {d : D} (h : d ∈ Dx.numbered ds) : ∃ i d', d = .tup [.int i, d'] ∧ d' ∈ ds := by
  unfold Dx.numbered at h
  rw [List.mem_iff_getElem?] at h
  obtain ⟨i, hi⟩ := h
  rw [List.getElem?_zipWith] at hi
  cases e2 : ds[i]? with
  | none => rw [e2] at hi; simp at hi
  | some d' =>
    cases e1 : (List.range ds.length)[i]? with
    | none => rw [e1] at hi; simp at hi
    | some j =>
      rw [e1, e2] at hi
      simp at hi
      exact ⟨j, d', hi.symm, List.mem_of_getElem? e2⟩
theorem ok_RI {f : Addr} {fd : FuncData} (F : Fun K "__init__" "Row.__init__" sRI f fd) (T : TX mg CW CR) (Kf : KF K CW CR) (F1 : FnD P w K mg base 2 "is_word" 1 0 (spIsWord CW)) (F2 : StD P w K mg base 4 CW "of" 1 0 (spOf CW)) : FnP P w K mg base CX0 5 f (spIS CR 0 (spRI CW)) := by
  refine initS_of F scRI (by decide) (fun _ _ _ _ _ _ _ => rfl) (fun _ _ _ _ _ _ _ _ _ => rfl) (fun cdv A outer s H E hr x dx ds post hl hS => ?_)
  obtain ⟨zs, rfl, hz, hp⟩ := hS
  refine' db_le (db_cons (ds_forT [2, 3] 12 PassesOwn.never (.cons (pg_name scRI.nd rfl (Or.inl rfl)) (.cons (pg_name scRI.nd rfl (Or.inl rfl)) .nil)) ?_)) ?_; walk_at "nn"
  · refine' di_enumT T.enumerate (da_cons (de_var 1 rfl (da_nil ?_))); walk_at "nn"
    refine' ⟨_, rfl, by rw [Dx.numbered_len]; simpa using hz, fun i Γ => ∃ a b, Γ = [.ins x dx CR [], .va (.tup (zs.map (wdD CW))), a, b], ⟨_, _, rfl⟩, fun Γ hI => ?_, fun i d Γ hd hI => ?_⟩
    · obtain ⟨a, b, rfl⟩ := hI
      refine' db_cons (ds_ifF ?_); walk_at "nn"
      refine' dt_cmp (de_callB T.len PySem.boot_len (da_cons (de_var 1 rfl (da_nil (oc_len_tup (de_gintE T.mostW (o2_gt (PB.i ?_)))))))); walk_at "nn"
      refine' ⟨decide_eq_false (by simp; omega), db_nil (db_cons (ds_fld 0 rfl Kf.cr Kf.ws (by decide) ?_))⟩; walk_at "nn"
      refine' de_callTy T.tuple PyProof.Rows.boot_tuple (da_cons ?_); walk_at "nn"
      refine' de_dc scRI.nd (dc_lcM 3 12 (blkOk_by (by kernel_rfl)) (fun _ _ _ _ _ => pg_name scRI.nd rfl (Or.inl rfl)) ?_); walk_at "nn"
      refine' di_tup (de_var 1 rfl ?_); walk_at "nn"
      refine' ⟨_, rfl, by simpa using hz, by decide, id, ?_, fun d hd s H C cl fp => ?_⟩
      · rw [List.map_id]
        refine' da_nil (oc_tuple_l (db_nil ⟨_, rfl, hp⟩))
      · obtain ⟨z, hz, rfl⟩ := List.mem_map.mp hd
        refine' de_static F2 hr (by decide) (de_gref T.Word ⟨rfl, da_cons (de_var 3 rfl (da_nil ?_))⟩); walk_at "nn"
        exact ⟨rfl, .inr ⟨z, rfl, rfl⟩⟩
    · obtain ⟨a, b, rfl⟩ := hI
      obtain ⟨j, d', rfl, hm⟩ := nums_mem (List.mem_of_getElem? hd)
      obtain ⟨z, hz', rfl⟩ := List.mem_map.mp hm
      refine' ⟨_, rfl, rfl, db_cons (ds_ifF ?_)⟩; walk_at "nn"
      refine' dt_not (dt_val (de_call F1 hr (by decide) (da_cons (de_var 3 rfl (da_nil ?_))))); walk_at "nn"
      refine' ⟨rfl, _, rfl, ob_bl ?_⟩; walk_at "nn"
      refine' ⟨rfl, db_nil (db_nil ⟨_, _, rfl⟩)⟩
  walk_at "dz"
abbrev sHeaps : Stmt := inClass (top 26) 5
theorem scHeaps : FnScope ["self", "text"] ["self"] (defScope sHeaps) := ⟨rfl, rfl, rfl, by decide +kernel, rfl, by decide +kernel, by decide +kernel⟩
def spHeaps (CW CR : Addr) : SpD := fun ds post => ∃ zs : List Str, ds = [rwD CW CR zs] ∧ zs.length ≤ 12 ∧ ∀ ys : List Str, ys.Perm zs → PyProof.Rows.sortedS ys = true → post (.lst (ys.map D.str))
theorem ok_heaps {f : Addr} {fd : FuncData} (F : Fun K "heaps" "Row.heaps" sHeaps f fd) (T : TX mg CW CR) (Kf : KF K CW CR) (F1 : FnD P w K mg base 1 "texts_of" 1 0 (spTexts CW)) : FnG P w K mg base CX0 2 f fd ["self"] (spN 1 0 (spHeaps CW CR)) := by
  refine fn_of F scHeaps rfl (by decide) (fun cdv A outer s H E hr ds post hl hS => ?_)
  obtain ⟨zs, rfl, hz, hp⟩ := hS
  refine' db_le (db_cons (ds_ret ?_)) ?_; walk_at "nn"
  · refine' de_callB T.sorted PyProof.Rows.boot_sorted (da_cons ?_); walk_at "nn"
    refine' de_dc scHeaps.nd (dc_lcM 1 12 (blkOk_by (by kernel_rfl)) (fun _ _ _ _ _ => pg_name scHeaps.nd rfl (Or.inl rfl)) ?_); walk_at "nn"
    refine' di_list (de_call F1 hr (by decide) (da_cons (de_fld (de_var 0 rfl ?_)))); walk_at "nn"
    refine' ⟨_, _, _, rfl, Kf.cr, Kf.ws, rfl, da_nil ⟨rfl, zs, rfl, hz, _, rfl, by simpa using hz, by decide, id, ?_, fun d hd s H C cl fp => ?_⟩⟩; walk_at "nn"
    · rw [List.map_id]
      refine' da_nil (oc_sortedS (by omega) hp)
    · obtain ⟨z, hz, rfl⟩ := List.mem_map.mp hd
      refine' de_callTy T.str PyProof.Rows.boot_str (da_cons (de_var 1 rfl (da_nil (oc_str_str rfl))))
    all_goals exact 0
  walk_at "dz"
abbrev sOr : Stmt := inClass (top 26) 12
theorem scOr : FnScope ["self", "other", "words"] ["self", "other"] (defScope sOr) := ⟨rfl, rfl, rfl, by decide +kernel, rfl, by decide +kernel, by decide +kernel⟩
def spOr (CW CR : Addr) : SpD := fun ds post => ∃ (zs : List Str) (z : Str), ds = [rwD CW CR zs, .str z] ∧ zs.length < 12 ∧ Tx z ∧ post (rwD CW CR (zs ++ [wt z]))
theorem ok_or {f : Addr} {fd : FuncData} (F : Fun K "__or__" "Row.__or__" sOr f fd) (T : TX mg CW CR) (Kf : KF K CW CR) (F1 : StD P w K mg base 4 CW "of" 1 0 (spOf CW)) (F2 : MkS P w K mg base 5 "Row" CR 0 (spRI CW)) : FnG P w K mg base CX0 7 f fd ["self", "other"] (spN 2 0 (spOr CW CR)) := by
  refine fn_of F scOr rfl (by decide) (fun cdv A outer s H E hr ds post hl hS => ?_)
  obtain ⟨zs, z, rfl, hz, ht, hp⟩ := hS
  refine' db_le (db_cons (ds_asg 2 scOr.nd (de_lst (da_star (de_fld (de_var 0 rfl ?_)))))) ?_; walk_at "nn"
  · refine' ⟨_, _, _, rfl, Kf.cr, Kf.ws, rfl, _, .inl rfl, da_cons ?_⟩; walk_at "nn"
    refine' de_static F1 hr (by decide) (de_gref T.Word ⟨rfl, da_cons (de_var 1 rfl (da_nil ?_))⟩); walk_at "nn"
    refine' ⟨rfl, .inl ⟨z, rfl, ht, da_nil ⟨sz9 (by simp; omega), db_cons (ds_ret ?_)⟩⟩⟩; walk_at "nn"
    refine' de_makeS1 F2 hr (by decide) (de_var 2 rfl ⟨_, .inr rfl, sz9 (by simp; omega), zs ++ [wt z], by simp, by simp; omega, hp⟩)
    all_goals exact 0
  walk_at "dz"
abbrev sAlike : Stmt := top 28
theorem scAlike : FnScope ["one", "other"] ["one", "other"] (defScope sAlike) := ⟨rfl, rfl, rfl, by decide +kernel, rfl, by decide +kernel, by decide +kernel⟩
def spAlike (CW CR : Addr) : SpD := fun ds post => ∃ xs ys : List Str, ds = [rwD CW CR xs, rwD CW CR ys] ∧ xs.length ≤ 12 ∧ ys.length ≤ 12 ∧ (∀ z ∈ xs, Tx z) ∧ (∀ z ∈ ys, Tx z) ∧ ∀ b : Bool, (b = true ↔ xs.Perm ys) → post (.bl b)
theorem ok_alike {f : Addr} {fd : FuncData} (F : Fun K "alike" "alike" sAlike f fd) (F1 : MtD P w K mg base 2 CR "heaps" 1 0 (spHeaps CW CR)) : FnG P w K mg base CX0 3 f fd ["one", "other"] (spN 2 0 (spAlike CW CR)) := by
  refine fn_of F scAlike rfl (by decide) (fun cdv A outer s H E hr ds post hl hS => ?_)
  obtain ⟨xs, ys, rfl, hx, hy, tx, ty, hp⟩ := hS
  refine' db_le (db_cons (ds_ret (de_cmp ?_))) ?_; walk_at "nn"
  · refine' de_meth0 F1 hr (by decide) (de_var 0 rfl ⟨_, rfl, by kernel_rfl, rfl, _, rfl, hx, fun as p1 s1 => ?_⟩); walk_at "nn"
    refine' de_meth0 F1 hr (by decide) (de_var 1 rfl ⟨_, rfl, by kernel_rfl, rfl, _, rfl, hy, fun bs p2 s2 => ?_⟩); walk_at "nn"
    refine' o2_eqD (y1 := .list (as.map PyData.str)) (y2 := .list (bs.map PyData.str)) hr ?_ ?_ ?_ ?_ ?_
    · exact pyD_strs as
    · exact pyD_strs bs
    · exact shaped_strs fun z hz => (tx z (p1.subset hz)).ok
    · exact shaped_strs fun z hz => (ty z (p2.subset hz)).ok
    · refine hp _ ?_
      rw [eqv_strs]
      refine ⟨fun h => ?_, fun h => ?_⟩
      · have e : as = bs := of_decide_eq_true h
        subst e
        exact p1.symm.trans p2
      · exact decide_eq_true (sorted_eq (p1.trans (h.trans p2.symm)) s1 s2)
    all_goals exact 0
  walk_at "dz"
end
end K51
-- K51b
namespace K51
open PySem L2 Dx
local macro_rules | `(tactic| walk_at "nn") => `(tactic| iterate 24 (try ((with_reducible show Nat); rotate_left)))
local macro_rules | `(tactic| walk_at "dz") => `(tactic| ((all_goals (try (with_reducible exact (0 : Nat)))); (all_goals first | decide | omega)))
section
variable {P : Program} {w : World} {K : PySem.W.Frag} {mg : Str → Option Value} {base : Heap} {CW CR : Addr}
abbrev sPen : Stmt := top 30
abbrev sDraw : Stmt := top 31
theorem scPen : FnScope ["_law_script"] ["_law_script"] (defScope sPen) := ⟨rfl, rfl, rfl, by decide +kernel, rfl, by decide +kernel, by decide +kernel⟩
theorem scDraw : FnScope ["_law_pen_here", "_law_many", "_law_digit", "_law_taken", "_law_cell", "_law_great", "_law_mixed"] ["_law_pen_here", "_law_many"] (defScope sDraw) := ⟨rfl, rfl, rfl, by decide +kernel, rfl, by decide +kernel, by decide +kernel⟩
def spDraw : SpD := fun ds post => ∃ m : Int, ds = [.pen, .int m] ∧ 0 < m ∧ m.natAbs < 2 ^ 200 ∧ ∀ i : Int, 0 ≤ i → i < m → post (.int i)
theorem rst_div {r m : Int} (h : Rst r) (hm : 0 < m) : Rst (r / m) := by
  obtain ⟨h0, h1⟩ := h
  refine ⟨Int.ediv_nonneg h0 (Int.le_of_lt hm), ?_⟩
  have h2 : r / m ≤ r := Int.ediv_le_self _ h0
  have h3 : 0 ≤ r / m := Int.ediv_nonneg h0 (Int.le_of_lt hm)
  omega
theorem ok_pen {f : Addr} {fd : FuncData} (F : Fun K "_law_pen" "_law_pen" sPen f fd) (T : TX mg CW CR) : FnG P w K mg base CX0 1 f fd ["_law_script"] (spPen K) := pen_of F scPen T.list rfl
theorem bb8 : 2 ^ BB = 8 * 2 ^ (BB - 3) := by
  show 2 ^ ((BB - 3) + 3) = _
  rw [Nat.pow_add, Nat.mul_comm]
theorem great_rst {cell m : Int} (hc : Cel cell) (h : 10 ^ 18 ≤ (if cell < 0 then -cell else cell)) (h0 : 0 < m) : 0 ≤ 2 * ((if cell < 0 then -cell else cell) - 10 ^ 18) + (if decide (cell < 0) then 1 else 0) ∧ Rst ((2 * ((if cell < 0 then -cell else cell) - 10 ^ 18) + (if decide (cell < 0) then 1 else 0)) / m) := by
  have h1 : cell.natAbs < 2 ^ (BB - 3) := hc
  have e8 := bb8
  generalize hN : 2 ^ (BB - 3) = N at h1 e8
  have key : 0 ≤ 2 * ((if cell < 0 then -cell else cell) - 10 ^ 18) + (if decide (cell < 0) then 1 else 0) ∧ (2 * ((if cell < 0 then -cell else cell) - 10 ^ 18) + (if decide (cell < 0) then 1 else 0)).natAbs < 8 * N := by
    have e18 : (10 : Int) ^ 18 = 1000000000000000000 := by decide
    rw [e18] at h ⊢
    by_cases hlt : cell < 0
    · simp [hlt] at h ⊢; omega
    · simp [hlt] at h ⊢; omega
  refine ⟨key.1, rst_div ⟨key.1, ?_⟩ h0⟩
  rw [e8]; exact key.2
theorem ok_draw {f : Addr} {fd : FuncData} (F : Fun K "_law_draw" "_law_draw" sDraw f fd) (T : TX mg CW CR) : FnG P w K mg base CX0 1 f fd ["_law_pen_here", "_law_many"] (spN 2 1 spDraw) := by
  refine fn_of F scDraw rfl (by decide) (fun cdv A outer s H E hr ds post hl hS => ?_)
  obtain ⟨m, rfl, h0, hm, hp⟩ := hS
  have hw : ∀ i, CDivW i m := fun i => L2.wide_div (i := i) h0 hm (by decide) (by decide)
  refine' db_le (db_cut (fun Γ => Γ = G0 ["_law_pen_here", "_law_many", "_law_digit", "_law_taken", "_law_cell", "_law_great", "_law_mixed"] [.pen, .int m]) (ds_if (dt_cmp (de_pen2 0 rfl fun r hr => de_int (o2_gt (PB.i ?_))))) ?_) ?_; walk_at "nn"
  · refine' ⟨fun h => ?_, fun h => db_nil rfl⟩; walk_at "nn"
    refine' db_cons (ds_asg 2 scDraw.nd (de_bin (de_callTy T.int PyProof.Rows.boot_int (da_cons (de_pen2 0 rfl fun r hr => da_nil (oc_int (de_var 1 rfl (o2_mod h0 ?_)))))))); walk_at "nn"
    refine' db_cons (ds_pen2 0 rfl (de_bin (de_callTy T.int PyProof.Rows.boot_int (da_cons (de_pen2 0 rfl fun r hr => da_nil (oc_int (de_var 1 rfl (o2_I (d := .int _) op_fdivW (hw _) (fun _ _ => rfl) ⟨_, rfl, rst_div hr h0, ?_⟩)))))))); walk_at "nn"
    refine' db_cons (ds_ret (de_var 2 rfl ?_)); walk_at "nn"
    exact hp _ (Int.emod_nonneg _ (by omega)) (Int.emod_lt_of_pos _ h0)
    all_goals exact 0
  · rintro Γ rfl
    refine' db_pen1 0 3 rfl (by decide) (show 3 < 7 by decide) scDraw.nd fun t t0 t1 => ?_; walk_at "nn"
    refine' db_cons (ds_asg 4 scDraw.nd (de_bin (de_bin (de_int (de_var 3 rfl (o2_mul ?_ ?_)))))); walk_at "nn"
    · refine' .inl ⟨by decide, by decide⟩
    refine' de_int (o2_add ?_); walk_at "nn"
    refine' db_cut (fun Γ => ∃ cell, Cel cell ∧ Γ = [.va .pen, .va (.int m), .no, .va (.int t), .va (.int cell), .no, .no]) (ds_penIf 0 3 4 hr T.int T.len scDraw.nd rfl rfl ⟨fun r hr => ⟨r, hr, rfl⟩, ⟨_, ?_, rfl⟩⟩) ?_; walk_at "nn"
    · unfold Cel
      refine Nat.lt_of_lt_of_le (m := 2 ^ 64) (by omega) (Nat.pow_le_pow_right (by decide) (by decide))
    rintro Γ ⟨cell, hc, rfl⟩
    refine' db_cut (fun Γ => Γ = [.va .pen, .va (.int m), .no, .va (.int t), .va (.int cell), .no, .no]) (ds_if (dt_w (dw_and (dt_cmp (de_var 3 rfl (de_callB T.len PySem.boot_len (da_cons (de_pen0 0 rfl fun ns _ _ => da_nil (oc_len_lst (o2_lt (PB.i ?_))))))))))) ?_; walk_at "nn"
    · refine' ⟨fun _ => ?_, fun _ => ⟨fun h => (by cases h), fun _ => db_nil rfl⟩⟩; walk_at "nn"
      refine' dw_one (dt_cmp (de_callB T.abs PyProof.Rows.boot_abs (da_cons (de_var 4 rfl (da_nil (oc_abs (de_bin (de_int (de_int (o2_pow ?_ ?_)))))))))); walk_at "nn"
      · exact ⟨by decide, by decide, by decide⟩
      refine' o2_ge (PB.i ⟨fun h => ?_, fun _ => db_nil rfl⟩); walk_at "nn"
      have hge := of_decide_eq_true h
      obtain ⟨g0, g1⟩ := great_rst hc hge h0
      refine' db_cons (ds_asg 5 scDraw.nd (de_bin (de_bin (de_int (de_bin (de_callB T.abs PyProof.Rows.boot_abs (da_cons (de_var 4 rfl (da_nil (oc_abs (de_bin (de_int (de_int (o2_pow ?_ ?_)))))))))))))); walk_at "nn"
      · exact ⟨by decide, by decide, by decide⟩
      refine' o2_sub (o2_mul ?_ ?_); walk_at "nn"
      · exact .inl ⟨by decide, by decide⟩
      refine' de_callTy T.int PyProof.Rows.boot_int (da_cons (de_cmp (de_var 4 rfl (de_int (o2_lt (da_nil (oc_int_bl (o2_add ?_)))))))); walk_at "nn"
      refine' db_cons (ds_pen2 0 rfl (de_bin (de_callTy T.int PyProof.Rows.boot_int (da_cons (de_var 5 rfl (da_nil (oc_int (de_var 1 rfl (o2_I (d := .int _) op_fdivW (hw _) (fun _ _ => rfl) ⟨_, rfl, g1, ?_⟩))))))))); walk_at "nn"
      refine' db_cons (ds_ret (de_bin (de_callTy T.int PyProof.Rows.boot_int (da_cons (de_var 5 rfl (da_nil (oc_int (de_var 1 rfl (o2_mod h0 ?_))))))))); walk_at "nn"
      exact hp _ (Int.emod_nonneg _ (by omega)) (Int.emod_lt_of_pos _ h0)
      all_goals exact 0
    rintro Γ rfl
    have tt : t * t ≤ 1000000 * 1000000 := Int.mul_le_mul t1 t1 t0 (by decide)
    have tt0 : 0 ≤ t * t := Int.mul_nonneg t0 t0
    refine' db_cons (ds_asg 6 scDraw.nd (de_bin (de_callTy T.int PyProof.Rows.boot_int (da_cons (de_bin (de_bin (de_bin (de_bin (de_callTy T.int PyProof.Rows.boot_int (da_cons (de_var 4 rfl (da_nil (oc_int (de_int (o2_mod ?_ ?_))))))))))))))); walk_at "nn"
    · decide
    refine' de_bin (de_int (de_var 3 rfl (o2_mul ?_ ?_))); walk_at "nn"
    · exact .inl ⟨by decide, by decide⟩
    refine' o2_add (de_int (o2_add (de_int (o2_pow ?_ ?_)))); walk_at "nn"
    · have := Int.emod_nonneg cell (show (2147483563 : Int) ≠ 0 by decide)
      have := Int.emod_lt_of_pos cell (show (0 : Int) < 2147483563 by decide)
      refine ⟨by decide, by decide, by omega⟩
    generalize (cell % 2147483563 + 41231 * t + 73) ^ Int.toNat 5 = mx
    refine' da_nil (oc_int (de_int (o2_mod ?_ ?_))); walk_at "nn"
    · decide
    have m0 := Int.emod_nonneg mx (show (2147483629 : Int) ≠ 0 by decide)
    have m1 := Int.emod_lt_of_pos mx (show (0 : Int) < 2147483629 by decide)
    generalize mx % 2147483629 = m2 at m0 m1
    refine' db_cons (ds_asg 6 scDraw.nd (de_bin (de_callTy T.int PyProof.Rows.boot_int (da_cons (de_bin (de_bin (de_bin (de_bin (de_var 6 rfl (de_bin (de_bin (de_int (de_var 3 rfl (o2_mul ?_ ?_)))))))))))))); walk_at "nn"
    · exact .inl ⟨by decide, by decide⟩
    refine' de_int (o2_add (o2_mul ?_ ?_)); walk_at "nn"
    · exact .inl ⟨by omega, by omega⟩
    refine' de_bin (de_bin (de_int (de_var 3 rfl (o2_mul ?_ ?_)))); walk_at "nn"
    · exact .inl ⟨by decide, by decide⟩
    refine' de_var 3 rfl (o2_mul ?_ ?_); walk_at "nn"
    · exact .inr ⟨by omega, by omega⟩
    have b1 : m2 * (2 * t + 59) ≤ 2147483629 * (2 * 1000000 + 59) := Int.mul_le_mul (Int.le_of_lt m1) (by omega) (by omega) (by decide)
    have b0 : 0 ≤ m2 * (2 * t + 59) := Int.mul_nonneg m0 (by omega)
    have e3 : 50021 * t * t = 50021 * (t * t) := Int.mul_assoc _ _ _
    refine' o2_add (de_int (o2_add (de_int (o2_pow ?_ ?_)))); walk_at "nn"
    · rw [e3]
      refine ⟨by decide, by decide, by omega⟩
    generalize (m2 * (2 * t + 59) + 50021 * t * t + 31) ^ Int.toNat 3 = mx
    refine' da_nil (oc_int (de_int (o2_mod ?_ ?_))); walk_at "nn"
    · decide
    refine' db_cons (ds_ret (de_bin (de_callTy T.int PyProof.Rows.boot_int (da_cons (de_bin (de_var 6 rfl (de_int (o2_fdiv ?_ ?_)))))))); walk_at "nn"
    · exact ⟨by decide, by decide⟩
    refine' da_nil (oc_int (de_var 1 rfl (o2_mod h0 ?_))); walk_at "nn"
    exact hp _ (Int.emod_nonneg _ (by omega)) (Int.emod_lt_of_pos _ h0)
    all_goals exact 0
  walk_at "dz"
end
end K51
-- K51c
namespace K51
open PySem L2 Dx
local macro_rules | `(tactic| walk_at "nn") => `(tactic| iterate 24 (try ((with_reducible show Nat); rotate_left)))
local macro_rules | `(tactic| walk_at "dz") => `(tactic| ((all_goals (try (with_reducible exact (0 : Nat)))); (all_goals first | decide | omega)))
section
variable {P : Program} {w : World} {K : PySem.W.Frag} {mg : Str → Option Value} {base : Heap} {CW CR : Addr}
abbrev sPick : Stmt := top 32
theorem scPick : FnScope ["_law_pen_here", "_law_some"] ["_law_pen_here", "_law_some"] (defScope sPick) := ⟨rfl, rfl, rfl, by decide +kernel, rfl, by decide +kernel, by decide +kernel⟩
def spPick : SpD := fun ds post => (∃ es, ds = [.pen, .lst es] ∧ 0 < es.length ∧ es.length ≤ 100000 ∧ ∀ d ∈ es, post d) ∨ ∃ z, ds = [.pen, .str z] ∧ 0 < z.length ∧ z.length ≤ 100000 ∧ ∀ ch ∈ z.cps.toList, post (.str (sg ch))
theorem pow200 {n : Nat} (h : n ≤ 100000) : ((n : Int)).natAbs < 2 ^ 200 := by
  have : (100001 : Nat) ≤ 2 ^ 200 := by decide
  omega
theorem ok_pick {f : Addr} {fd : FuncData} (F : Fun K "_law_pick" "_law_pick" sPick f fd) (T : TX mg CW CR) (F1 : FnD P w K mg base 1 "_law_draw" 2 1 spDraw) : FnG P w K mg base CX0 2 f fd ["_law_pen_here", "_law_some"] (spN 2 1 spPick) := by
  refine fn_of F scPick rfl (by decide) (fun cdv A outer s H E hr ds post hl hS => ?_)
  rcases hS with ⟨es, rfl, h0, h1, hp⟩ | ⟨z, rfl, h0, h1, hp⟩
  · refine' db_le (db_cons (ds_ret (de_ix (de_var 1 rfl (de_call F1 hr (by decide) (da_cons (de_var 0 rfl (da_cons (de_callB T.len PySem.boot_len (da_cons (de_var 1 rfl (da_nil (oc_len_lst (da_nil ?_)))))))))))))) ?_; walk_at "nn"
    · refine' ⟨rfl, _, rfl, by omega, pow200 h1, fun i i0 i1 => ⟨i, rfl, .inl ?_⟩⟩
      obtain ⟨d, hd, hat⟩ := at_mem (by omega) i1
      exact ⟨es, d, .inl rfl, hat, hp d hd⟩
    walk_at "dz"
  · refine' db_le (db_cons (ds_ret (de_ix (de_var 1 rfl (de_call F1 hr (by decide) (da_cons (de_var 0 rfl (da_cons (de_callB T.len PySem.boot_len (da_cons (de_var 1 rfl (da_nil (oc_len_str (sz9 h1) (da_nil ?_)))))))))))))) ?_; walk_at "nn"
    · refine' ⟨rfl, _, rfl, by omega, pow200 h1, fun i i0 i1 => ⟨i, rfl, .inr ?_⟩⟩
      rw [len_cp] at i1
      obtain ⟨d, hd, hat⟩ := at_mem (by omega) i1
      exact ⟨z, d, rfl, sz9 h1, hat, hp d hd⟩
    walk_at "dz"
abbrev sWord : Stmt := top 33
theorem scWord : FnScope ["_law_pen_here", "_law_k"] ["_law_pen_here"] (defScope sWord) := ⟨rfl, rfl, rfl, by decide +kernel, rfl, by decide +kernel, by decide +kernel⟩
def spWord : SpD := fun ds post => ds = [.pen] ∧ ∀ z, Tx z → post (.str z)
theorem sum_sg : ∀ zs : List Str, (∀ z ∈ zs, ∃ ch, z = sg ch) → (zs.map (·.length)).sum = zs.length
  | [], _ => rfl
  | z :: zs, h => by
    obtain ⟨ch, rfl⟩ := h z (by simp)
    rw [List.map_cons, List.sum_cons, sum_sg zs fun z hz => h z (by simp [hz]), List.length_cons]
    show 1 + zs.length = _
    omega
theorem tx_join {zs : List Str} (h0 : 1 ≤ zs.length) (h1 : zs.length ≤ 8) (h : ∀ z ∈ zs, ∃ ch, z = sg ch ∧ (ch = 97 ∨ ch = 98 ∨ ch = 99)) : Tx (Txt.join "" zs) := by
  have hl : (Txt.join "" zs).length = zs.length := by
    rw [len_join, sum_sg zs fun z hz => ⟨_, (h z hz).choose_spec.1⟩]
  refine ⟨by omega, by omega, fun ch hc => ?_⟩
  rw [cp_join] at hc
  obtain ⟨l, hl, hcl⟩ := List.mem_flatten.mp hc
  obtain ⟨z, hz, rfl⟩ := List.mem_map.mp hl
  obtain ⟨c, rfl, hc'⟩ := h z hz
  have : ch = c := by simpa [sg] using hcl
  rw [this]; exact hc'
theorem ok_word {f : Addr} {fd : FuncData} (F : Fun K "_law_word" "_law_word" sWord f fd) (T : TX mg CW CR) (F1 : FnD P w K mg base 2 "_law_pick" 2 1 spPick) : FnG P w K mg base CX0 3 f fd ["_law_pen_here"] (spN 1 9 spWord) := by
  refine fn_of F scWord rfl (by decide) (fun cdv A outer s H E hr ds post hl hS => ?_)
  obtain ⟨rfl, hp⟩ := hS
  refine' db_le (db_cons (ds_ret (de_bm PySem.F.plainAttrs_str PySem.F.slot_str_join PySem.F.type_str_join mt_join (de_str ⟨rfl, da_cons ?_⟩)))) ?_; walk_at "nn"
  · refine' de_dc scWord.nd (dc_lcS 1 8 (blkOk_by (by kernel_rfl)) (fun _ _ _ _ _ => pg_name scWord.nd rfl (Or.inl rfl)) ?_); walk_at "nn"
    refine' di_range1 T.range (da_cons (de_call F1 hr (by decide) (da_cons (de_var 0 rfl (da_cons (de_lst (da_cons (de_int (da_cons (de_int (da_cons (de_int (da_cons (de_int (da_cons (de_int (da_cons (de_int (da_cons (de_int (da_cons (de_int (da_nil ?_))))))))))))))))))))))); walk_at "nn"
    refine' ⟨sz9 (by decide), da_nil ⟨rfl, .inl ⟨_, rfl, by decide, by decide, fun d hd => da_nil ?_⟩⟩⟩; walk_at "nn"
    have hj : ∃ j : Nat, d = .int (j : Int) ∧ 1 ≤ j ∧ j ≤ 8 := by
      simp at hd
      rcases hd with rfl | rfl | rfl | rfl | rfl | rfl <;> exact ⟨_, rfl, by decide, by decide⟩
    obtain ⟨j, rfl, j0, j1⟩ := hj
    refine' ⟨_, rfl, by omega, by omega, by simpa using j1, by decide, fun z => ∃ ch, z = sg ch ∧ (ch = 97 ∨ ch = 98 ∨ ch = 99), fun zs hl hz => ?_, fun d hd s H C cl fp => ?_⟩; walk_at "nn"
    · have hl : zs.length = j := by simpa using hl
      refine' da_nil (om_join ?_ ?_)
      · rw [sum_sg zs fun z hz' => ⟨_, (hz z hz').choose_spec.1⟩]
        have : ("" : Str).length = 0 := by decide +kernel
        rw [this]; omega
      · exact hp _ (tx_join (by omega) (by omega) hz)
    · refine' de_call F1 hr (by decide) (da_cons (de_var 0 rfl (da_cons (de_str (da_nil ⟨rfl, .inr ⟨_, rfl, by decide +kernel, by decide +kernel, fun ch hc => ⟨_, rfl, ch, rfl, ?_⟩⟩⟩))))); walk_at "nn"
      have e : ("aabc" : Str).cps.toList = [97, 97, 98, 99] := by decide +kernel
      rw [e] at hc
      simp at hc
      omega
    all_goals exact 0
  walk_at "dz"
end
end K51
-- K51d
namespace K51
open PySem L2 Dx
local macro_rules | `(tactic| walk_at "nn") => `(tactic| iterate 24 (try ((with_reducible show Nat); rotate_left)))
local macro_rules | `(tactic| walk_at "dz") => `(tactic| ((all_goals (try (with_reducible exact (0 : Nat)))); (all_goals first | decide | omega)))
section
variable {P : Program} {w : World} {K : PySem.W.Frag} {mg : Str → Option Value} {base : Heap} {CW CR : Addr}
abbrev sWords : Stmt := top 34
theorem scWords : FnScope ["_law_pen_here", "_law_most", "_law_found", "_law_k"] ["_law_pen_here", "_law_most"] (defScope sWords) := ⟨rfl, rfl, rfl, by decide +kernel, rfl, by decide +kernel, by decide +kernel⟩
def spWords : SpD := fun ds post => ∃ m : Nat, ds = [.pen, .int (m : Int)] ∧ m ≤ 12 ∧ ∀ zs : List Str, zs.length ≤ m → (∀ z ∈ zs, Tx z) → post (.lst (zs.map D.str))
theorem ok_words {f : Addr} {fd : FuncData} (F : Fun K "_law_words" "_law_words" sWords f fd) (T : TX mg CW CR) (F1 : FnD P w K mg base 1 "_law_draw" 2 1 spDraw) (F2 : FnD P w K mg base 2 "_law_pick" 2 1 spPick) (F3 : FnD P w K mg base 3 "_law_word" 1 9 spWord) : FnG P w K mg base CX0 4 f fd ["_law_pen_here", "_law_most"] (spN 2 130 spWords) := by
  refine fn_of F scWords rfl (by decide) (fun cdv A outer s H E hr ds post hl hS => ?_)
  obtain ⟨m, rfl, hm, hp⟩ := hS
  refine' db_le (db_cons (ds_acc 2 scWords.nd (da_nil ⟨sz9 (by decide), db_cons (ds_for 3 12 PassesOwn.never (pg_name scWords.nd rfl (Or.inl rfl)) ?_)⟩))) ?_; walk_at "nn"
  · refine' di_range1 T.range (da_cons (de_call F1 hr (by decide) (da_cons (de_var 0 rfl (da_cons (de_bin (de_var 1 rfl (de_int (o2_add (da_nil ?_))))))))))
    walk_at "nn"
    refine' ⟨rfl, _, rfl, by omega, by omega, fun j j0 j1 => da_nil ⟨j, rfl, by omega, by omega, by simp; omega, fun i Γ => ∃ (zs : List Str) (a : Sl), Γ = [.va .pen, .va (.int (m : Int)), .li (zs.map D.str), a] ∧ zs.length = i ∧ ∀ z ∈ zs, Tx z, ⟨[], _, rfl, rfl, by simp⟩, fun Γ hI => ?_, fun i d Γ hd hI => ?_⟩⟩; walk_at "nn"
    · obtain ⟨zs, a, rfl, hz, ht⟩ := hI
      refine' db_cons (ds_ret (de_var 2 rfl (hp zs ?_ ht))); walk_at "nn"
      simp at hz; omega
      all_goals exact 0
    · obtain ⟨zs, a, rfl, hz, ht⟩ := hI
      have hi : i < 12 := by
        have := (List.getElem?_eq_some_iff.mp hd).1
        simp at this; omega
      have ok : ∀ z ∈ zs, PyData.strOk z = true := fun z h => (ht z h).ok
      have fin : ∀ z, Tx z → (∃ (zs' : List Str) (a : Sl), ([Sl.va .pen, .va (.int (m : Int)), .li (zs.map D.str ++ [D.str z]), .va d] : Gm) = [.va .pen, .va (.int (m : Int)), .li (zs'.map D.str), a] ∧ zs'.length = i + 1 ∧ ∀ z ∈ zs', Tx z) := fun z hz' => ⟨zs ++ [z], .va d, by simp, by simp [hz], fun z' h' => by
        rcases List.mem_append.mp h' with h | h
        · exact ht z' h
        · rw [List.mem_singleton.mp h]; exact hz'⟩
      have hlt : (zs.map D.str).length < sizeLine := Nat.lt_of_lt_of_le (m := 13) (by simp; omega) (by decide)
      refine' db_cons (ds_appS 2 rfl (de_ifx (dt_w (dw_and (dt_cmp (de_var 2 rfl (de_lst (da_nil ⟨sz9 (by decide), o2_neLS (bs := []) hr ok (by simp) (PB.i ⟨fun h => ?_, fun h => ?_⟩)⟩))))))) ); walk_at "nn"
      · refine' dw_one (dt_cmp (de_call F1 hr (by decide) (da_cons (de_var 0 rfl (da_cons (de_int (da_nil ⟨rfl, _, rfl, by decide, by decide, fun q q0 q1 => de_int (o2_eqI (PB.i ⟨fun h2 => ?_, fun h2 => ?_⟩))⟩))))))); walk_at "nn"
        · refine' de_call F2 hr (by decide) (da_cons (de_var 0 rfl (da_cons (de_var 2 rfl (da_nil ?_))))); walk_at "nn"
          refine' ⟨rfl, .inl ⟨_, rfl, ?_, by simp; omega, fun d' hd' => ?_⟩⟩
          · cases zs with
            | nil => simp at h
            | cons a b => simp
          · obtain ⟨z, hz', rfl⟩ := List.mem_map.mp hd'
            exact ⟨trivial, hlt, db_nil (fin z (ht z hz'))⟩
        · refine' de_call F3 hr (by decide) (da_cons (de_var 0 rfl (da_nil ⟨rfl, rfl, fun z hz' => ⟨trivial, hlt, db_nil (fin z hz')⟩⟩))); walk_at "nn"
      · refine' ⟨fun h2 => (by cases h2), fun h2 => ?_⟩; walk_at "nn"
        refine' de_call F3 hr (by decide) (da_cons (de_var 0 rfl (da_nil ⟨rfl, rfl, fun z hz' => ⟨trivial, hlt, db_nil (fin z hz')⟩⟩))); walk_at "nn"
      all_goals exact 0
  walk_at "dz"
end
end K51
-- K51e
namespace K51
open PySem L2 Dx
local macro_rules | `(tactic| walk_at "nn") => `(tactic| iterate 24 (try ((with_reducible show Nat); rotate_left)))
local macro_rules | `(tactic| walk_at "dz") => `(tactic| ((all_goals (try (with_reducible exact (0 : Nat)))); (all_goals first | decide | omega)))
section
variable {P : Program} {w : World} {K : PySem.W.Frag} {mg : Str → Option Value} {base : Heap} {CW CR : Addr}
abbrev sStir : Stmt := top 35
theorem scStir : FnScope ["_law_pen_here", "_law_some", "_law_left", "_law_found"] ["_law_pen_here", "_law_some"] (defScope sStir) := ⟨rfl, rfl, rfl, by decide +kernel, rfl, by decide +kernel, by decide +kernel⟩
def spStir : SpD := fun ds post => ∃ (zs : List Str), (ds = [.pen, .lst (zs.map D.str)] ∨ ∃ z, ds = [.pen, .str z] ∧ zs = z.cps.toList.map sg) ∧ zs.length ≤ 12 ∧ (∀ z ∈ zs, PyData.strOk z = true) ∧ ∀ ys : List Str, ys.Perm zs → post (.lst (ys.map D.str))
theorem erase_perm {α : Type} {xs : List α} {k : Nat} {y : α} (h : xs[k]? = some y) (ys : List α) : ((ys ++ [y]) ++ xs.eraseIdx k).Perm (ys ++ xs) := by
  obtain ⟨hk, e⟩ := List.getElem?_eq_some_iff.mp h
  rw [List.append_assoc]
  refine List.Perm.append_left ys ?_
  rw [List.eraseIdx_eq_take_drop_succ]
  have e2 : xs = xs.take k ++ y :: xs.drop (k + 1) := by
    rw [← e, List.getElem_cons_drop]; exact (List.take_append_drop k xs).symm
  have p1 : (xs.take k ++ y :: xs.drop (k + 1)).Perm (y :: (xs.take k ++ xs.drop (k + 1))) := List.perm_middle
  rw [← e2] at p1
  exact p1.symm
theorem ok_stir {f : Addr} {fd : FuncData} (F : Fun K "_law_stirred" "_law_stirred" sStir f fd) (T : TX mg CW CR) (F1 : FnD P w K mg base 1 "_law_draw" 2 1 spDraw) : FnG P w K mg base CX0 2 f fd ["_law_pen_here", "_law_some"] (spN 2 13 spStir) := by
  refine fn_of F scStir rfl (by decide) (fun cdv A outer s H E hr ds post hl hS => ?_)
  obtain ⟨zs, hds, hz, hok, hp⟩ := hS
  have main : ∀ d : D, DB (CxB P w K mg base ["_law_pen_here", "_law_some", "_law_left", "_law_found"] "_law_stirred" sStir f cdv A outer s H E) WN 13 ((defBody sStir).drop 1) [.va .pen, .va d, .li (zs.map D.str), .li []] { nx := fun _ => post .non, rt := post } XN := by
    intro d
    refine' db_le (db_cons (ds_while 12 (fun m Γ => ∃ (es fs : List Str), Γ = [.va .pen, .va d, .li (es.map D.str), .li (fs.map D.str)] ∧ es.length ≤ m ∧ (fs ++ es).Perm zs) PassesOwn.never ⟨zs, [], rfl, hz, by simp⟩ (fun m Γ hm hI => ?_))) ?_; walk_at "nn"
    · obtain ⟨es, fs, rfl, hle, hpm⟩ := hI
      have ok2 : ∀ z ∈ es, PyData.strOk z = true := fun z h => hok z (hpm.subset (by simp [h]))
      refine' dt_cmp (de_var 2 rfl (de_lst (da_nil ⟨sz9 (by decide), o2_neLS (bs := []) hr ok2 (by simp) (PB.i ⟨fun h => ?_, fun h => ?_⟩)⟩))); walk_at "nn"
      · have hlen := hpm.length_eq
        rw [List.length_append] at hlen
        have hpos : 0 < es.length := by
          cases es with
          | nil => simp at h
          | cons a b => simp
        refine' db_cons (ds_appPop 3 2 rfl rfl (by decide) (de_call F1 hr (by decide) (da_cons (de_var 0 rfl (da_cons (de_callB T.len PySem.boot_len (da_cons (de_var 2 rfl (da_nil (oc_len_lst (da_nil ?_))))))))))); walk_at "nn"
        refine' ⟨rfl, _, rfl, by simpa using hpos, pow200 (by simp; omega), fun i i0 i1 => ?_⟩
        rw [List.length_map] at i1
        obtain ⟨k, rfl⟩ : ∃ k : Nat, i = (k : Int) := ⟨i.toNat, by omega⟩
        have hk : k < es.length := by omega
        refine' ⟨k, D.str es[k], rfl, by omega, by simp [hk], Nat.lt_of_lt_of_le (m := 13) (by simp; omega) (by decide), db_nil ⟨m - 1, by omega, es.eraseIdx k, fs ++ [es[k]], ?_, ?_, ?_⟩⟩
        · have e1 : (es.map D.str).eraseIdx k = (es.eraseIdx k).map D.str := by rw [List.eraseIdx_eq_take_drop_succ, List.eraseIdx_eq_take_drop_succ, List.map_append, List.map_take, List.map_drop]
          show [Sl.va .pen, .va d, .li ((es.map D.str).eraseIdx k), .li (fs.map D.str ++ [D.str es[k]])] = _
          rw [e1, List.map_append]; rfl
        · rw [List.length_eraseIdx]; simp [hk]; omega
        · exact (erase_perm (by simp [hk]) fs).trans hpm
        all_goals exact 0
      · have he : es = [] := by simpa using h
        subst he
        refine' db_cons (ds_ret (de_var 3 rfl (hp fs (by simpa using hpm))))
        all_goals exact 0
    walk_at "dz"
  rcases hds with rfl | ⟨z, rfl, hzs⟩
  · refine' db_le (db_cons (ds_par2 2 3 scStir.nd (by decide) T.list (de_var 1 rfl (.inl ⟨_, .inl rfl, main _⟩)))) (Nat.le_refl 13)
  · have hzl : z.length ≤ sizeLine := by
      rw [hzs] at hz
      rw [len_cp]
      exact sz9 (by rw [List.length_map] at hz; omega)
    have hm2 := main (.str z)
    rw [hzs, ← signs_sg] at hm2
    refine' db_le (db_cons (ds_par2 2 3 scStir.nd (by decide) T.list (de_var 1 rfl (.inr ⟨_, rfl, hzl, hm2⟩)))) (Nat.le_refl 13)
abbrev sRow : Stmt := top 36
theorem scRow : FnScope ["_law_words_here", "_law_row_here", "_law_word_here"] ["_law_words_here"] (defScope sRow) := ⟨rfl, rfl, rfl, by decide +kernel, rfl, by decide +kernel, by decide +kernel⟩
def spRow (CW CR : Addr) : SpD := fun ds post => ∃ zs : List Str, ds = [.lst (zs.map D.str)] ∧ zs.length ≤ 12 ∧ (∀ z ∈ zs, Tx z) ∧ post (rwD CW CR (zs.map wt))
theorem ok_row {f : Addr} {fd : FuncData} (F : Fun K "_law_row" "_law_row" sRow f fd) (F1 : MkS P w K mg base 5 "Row" CR 0 (spRI CW)) (F2 : MtD P w K mg base 7 CR (PySem.dunder (Operator.BitOr).info.2) 2 0 (spOr CW CR)) (O : OpT K CR (Operator.BitOr).info.2 "str") : FnG P w K mg base CX0 8 f fd ["_law_words_here"] (spN 1 0 (spRow CW CR)) := by
  refine fn_of F scRow rfl (by decide) (fun cdv A outer s H E hr ds post hl hS => ?_)
  obtain ⟨zs, rfl, hz, ht, hp⟩ := hS
  refine' db_le (db_cons (ds_asg 1 scRow.nd (de_makeS0 F1 hr (by decide) ⟨[], rfl, by decide, db_cons (ds_for 2 12 PassesOwn.never (pg_name scRow.nd rfl (Or.inl rfl)) (di_list (de_var 0 rfl ?_)))⟩))) ?_; walk_at "nn"
  · refine' ⟨_, rfl, by simpa using hz, fun i Γ => ∃ a : Sl, Γ = [.va (.lst (zs.map D.str)), .va (rwD CW CR ((zs.take i).map wt)), a], ⟨_, rfl⟩, fun Γ hI => ?_, fun i d Γ hd hI => ?_⟩
    · obtain ⟨a, rfl⟩ := hI
      refine' db_cons (ds_ret (de_var 1 rfl ?_)); walk_at "nn"
      rw [List.length_map, List.take_length]; exact hp
      all_goals exact 0
    · obtain ⟨a, rfl⟩ := hI
      rw [List.getElem?_map] at hd
      cases e : zs[i]? with
      | none => rw [e] at hd; cases hd
      | some z =>
        rw [e] at hd; cases hd
        have hi := (List.getElem?_eq_some_iff.mp e).1
        refine' db_cons (ds_asg 1 scRow.nd (de_bin (de_var 1 rfl (de_var 2 rfl (o2_own F2 O hr (by decide) rfl trivial ⟨_, z, rfl, by simp; omega, ht z (List.mem_of_getElem? e), db_nil ⟨.va (.str z), ?_⟩⟩))))); walk_at "nn"
        rw [List.take_succ, e]
        simp [rwD]
        all_goals exact 0
  walk_at "dz"
abbrev sHp : Stmt := top 37
theorem scHp : FnScope ["_law_words_here", "_law_sign", "_law_word_here"] ["_law_words_here"] (defScope sHp) := ⟨rfl, rfl, rfl, by decide +kernel, rfl, by decide +kernel, by decide +kernel⟩
def spHp : SpD := fun ds post => ∃ zs : List Str, ds = [.lst (zs.map D.str)] ∧ zs.length ≤ 12 ∧ (∀ z ∈ zs, Tx z) ∧ ∀ ys : List Str, ys.Perm (zs.map wt) → PyProof.Rows.sortedS ys = true → post (.lst (ys.map D.str))
def wtD : D → D
  | .str z => .str (wt z)
  | d => d
theorem ok_hp {f : Addr} {fd : FuncData} (F : Fun K "_law_heaps" "_law_heaps" sHp f fd) (T : TX mg CW CR) : FnG P w K mg base CX0 1 f fd ["_law_words_here"] (spN 1 0 spHp) := by
  refine fn_of F scHp rfl (by decide) (fun cdv A outer s H E hr ds post hl hS => ?_)
  obtain ⟨zs, rfl, hz, ht, hp⟩ := hS
  refine' db_le (db_cons (ds_ret (de_callB T.sorted PyProof.Rows.boot_sorted (da_cons ?_)))) ?_; walk_at "nn"
  · refine' de_dc scHp.nd (dc_lcM 2 12 (blkOk_by (by kernel_rfl)) (fun _ _ _ _ _ => pg_name scHp.nd rfl (Or.inl rfl)) ?_); walk_at "nn"
    refine' di_list (de_var 0 rfl ⟨_, rfl, by simpa using hz, by decide, wtD, ?_, fun d hd s H C cl fp => ?_⟩); walk_at "nn"
    · have e : (zs.map D.str).map wtD = (zs.map wt).map D.str := by rw [List.map_map, List.map_map]; rfl
      rw [e]
      refine' da_nil (oc_sortedS (by simp; omega) hp)
    · obtain ⟨z, hz', rfl⟩ := List.mem_map.mp hd
      have h8 := (ht z hz').2.1
      rw [len_cp] at h8
      refine' de_callTy T.str PyProof.Rows.boot_str (da_cons (de_bm PySem.F.plainAttrs_str PySem.F.slot_str_join PySem.F.type_str_join mt_join (de_str ⟨rfl, da_cons (de_callB T.sorted PyProof.Rows.boot_sorted (da_cons ?_))⟩))); walk_at "nn"
      refine' de_dc scHp.nd (dc_lcM 1 8 (blkOk_by (by kernel_rfl)) (fun _ _ _ _ _ => pg_name scHp.nd rfl (Or.inl rfl)) ?_); walk_at "nn"
      refine' di_str (de_var 2 rfl ⟨_, rfl, by simpa [signs] using h8, by decide, id, ?_, fun d hd s H C cl fp => ?_⟩); walk_at "nn"
      · rw [List.map_id, signs_sg]
        refine' da_nil (oc_sortedS (by rw [List.length_map]; omega) fun ys p1 s1 => da_nil (om_join ?_ (da_nil (oc_str_str ?_)))); walk_at "nn"
        · rw [sum_sg ys fun y hy => by
            obtain ⟨ch, _, e⟩ := List.mem_map.mp (p1.subset hy)
            exact ⟨ch, e.symm⟩]
          have h1 := p1.length_eq
          have : ("" : Str).length = 0 := by decide +kernel
          rw [this]
          rw [List.length_map] at h1
          omega
        · rw [join_sorted (ht z hz').2.2 p1 s1]; rfl
      · obtain ⟨ch, hc, rfl⟩ := signs_mem hd
        refine' de_callTy T.str PyProof.Rows.boot_str (da_cons (de_var 1 rfl (da_nil (oc_str_str rfl))))
      all_goals exact 0
    all_goals exact 0
  walk_at "dz"
end
end K51
-- K51f
namespace K51
open PySem L2 Dx
local macro_rules | `(tactic| walk_at "nn") => `(tactic| iterate 24 (try ((with_reducible show Nat); rotate_left)))
local macro_rules | `(tactic| walk_at "dz") => `(tactic| ((all_goals (try (with_reducible exact (0 : Nat)))); (all_goals first | decide | omega)))
section
variable {P : Program} {w : World} {K : PySem.W.Frag} {mg : Str → Option Value} {base : Heap} {CW CR : Addr}
abbrev sBent : Stmt := top 38
theorem scBent : FnScope ["_law_pen_here", "_law_words_here", "_law_way", "_law_spot", "_law_word_here", "_law_at", "_law_ahead"] ["_law_pen_here", "_law_words_here"] (defScope sBent) := ⟨rfl, rfl, rfl, by decide +kernel, rfl, by decide +kernel, by decide +kernel⟩
def spBent : SpD := fun ds post => ∃ es : List D, ds = [.pen, .lst es] ∧ Lp Tx 12 es ∧ ∀ fs, Lp Tx 12 fs → post (.lst fs)
theorem tx_put {z : Str} {i : Nat} {ch : Nat} (h : Tx z) (hi : i < z.length) (hc : ch = 97 ∨ ch = 98 ∨ ch = 99) : Tx (ofL (z.cps.toList.take i) ++ sg ch ++ ofL (z.cps.toList.drop (i + 1))) := by
  have hl : (ofL (z.cps.toList.take i) ++ sg ch ++ ofL (z.cps.toList.drop (i + 1))).cps.toList = z.cps.toList.take i ++ [ch] ++ z.cps.toList.drop (i + 1) := by
    rw [cp_app, cp_app, cp_ofL, cp_ofL]; rfl
  rw [len_cp] at hi
  have hlen : (ofL (z.cps.toList.take i) ++ sg ch ++ ofL (z.cps.toList.drop (i + 1))).length = z.length := by
    rw [len_cp, hl, len_cp z]
    simp only [List.length_append, List.length_take, List.length_drop, List.length_cons, List.length_nil]
    omega
  refine ⟨by rw [hlen]; exact h.1, by rw [hlen]; exact h.2.1, fun c hc' => ?_⟩
  rw [hl] at hc'
  rcases List.mem_append.mp hc' with h1 | h1
  · rcases List.mem_append.mp h1 with h1 | h1
    · exact h.2.2 c (List.mem_of_mem_take h1)
    · rw [List.mem_singleton.mp h1]; exact hc
  · exact h.2.2 c (List.mem_of_mem_drop h1)
theorem tx_app {a b : Str} (ha : Tx a) (hb : Tx b) (h : a.length + b.length ≤ 8) : Tx (a ++ b) := by
  have hl : (a ++ b).length = a.length + b.length := by rw [len_cp, cp_app, List.length_append, ← len_cp, ← len_cp]
  refine ⟨by have := ha.1; omega, by omega, fun c hc => ?_⟩
  rw [cp_app] at hc
  rcases List.mem_append.mp hc with h1 | h1
  · exact ha.2.2 c h1
  · exact hb.2.2 c h1
theorem ok_bent {f : Addr} {fd : FuncData} (F : Fun K "_law_bent" "_law_bent" sBent f fd) (T : TX mg CW CR) (F1 : FnD P w K mg base 1 "_law_draw" 2 1 spDraw) (F2 : FnD P w K mg base 2 "_law_pick" 2 1 spPick) (F3 : FnD P w K mg base 3 "_law_word" 1 9 spWord) : FnG P w K mg base CX0 4 f fd ["_law_pen_here", "_law_words_here"] (spN 2 20 spBent) := by
  refine fn_of F scBent rfl (by decide) (fun cdv A outer s H E hr ds post hl hS => ?_)
  obtain ⟨es, rfl, hL, hp⟩ := hS
  have hz := hL.1
  refine' db_le (db_cons (ds_par 2 3 scBent.nd (by decide) (da_cons (de_call F1 hr (by decide) (da_cons (de_var 0 rfl (da_cons (de_int (da_nil ⟨rfl, _, rfl, by decide, by decide, fun wy wy0 wy1 => ?_⟩)))))))) ) ?_; walk_at "nn"
  · refine' da_cons (de_call F1 hr (by decide) (da_cons (de_var 0 rfl (da_cons (de_bin (de_callB T.len PySem.boot_len (da_cons (de_var 1 rfl (da_nil (oc_len_lst (de_int (o2_add (da_nil ⟨rfl, _, rfl, by omega, by omega, fun sp sp0 sp1 => da_nil ⟨_, _, rfl, ?_⟩⟩))))))))))))); walk_at "nn"
    have hcut : ∀ i : Int, 0 ≤ i → i ≤ es.length → Lp Tx 12 (cutD es none (some i)) ∧ (cutD es none (some i)).length = i.toNat := fun i i0 i1 => by
      rw [cutD_to i0 i1]
      exact ⟨hL.take _, by rw [List.length_take]; omega⟩
    have hcuf : ∀ i : Int, 0 ≤ i → i ≤ es.length → Lp Tx 12 (cutD es (some i) none) ∧ (cutD es (some i) none).length = es.length - i.toNat := fun i i0 i1 => by
      rw [cutD_from i0 i1]
      exact ⟨hL.drop _, by rw [List.length_drop]⟩
    have s9 : ∀ {n : Nat}, n ≤ 50 → n ≤ sizeLine := fun h => sz9 (by omega)
    refine' db_cons (ds_ifK (dt_w (dw_and (dt_cmp (de_var 2 rfl (de_int (o2_eqI (PB.i ⟨fun h => ?_, fun h h2 => (by cases h2)⟩))))))) ?_); walk_at "nn"
    · refine' dw_one (dt_cmp (de_callB T.len PySem.boot_len (da_cons (de_var 1 rfl (da_nil (oc_len_lst (de_int (o2_lt (PB.i fun h2 => ?_))))))))); walk_at "nn"
      have h2 := of_decide_eq_true h2
      obtain ⟨a1, a2⟩ := hcut sp sp0 (by omega)
      obtain ⟨b1, b2⟩ := hcuf sp sp0 (by omega)
      refine' db_cons (ds_ret (de_bin (de_bin (de_sl (de_var 1 rfl (dp_none (dp_some (de_var 3 rfl ⟨_, rfl, .inl ⟨_, rfl, de_lst (da_cons (de_call F3 hr (by decide) (da_cons (de_var 0 rfl (da_nil ⟨rfl, rfl, fun z hz' => da_nil ⟨sz9 (Nat.le_of_ble_eq_true rfl), o2_catL ?_ (de_sl (de_var 1 rfl (dp_some (de_var 3 rfl ⟨_, rfl, dp_none (.inl ⟨_, rfl, o2_catL ?_ (hp _ ?_)⟩)⟩))))⟩⟩)))))⟩⟩)))))))); walk_at "nn"
      · exact s9 (by simp; omega)
      · exact s9 (by simp; omega)
      · exact (a1.app (Lp.one hz') (Nat.le_refl _)).app b1 (by simp; omega)
      all_goals exact 0
    refine' db_cons (ds_ifK (dt_cmp (de_var 2 rfl (de_int (o2_eqI (PB.i fun h => ?_))))) ?_); walk_at "nn"
    · obtain ⟨a1, a2⟩ := hcut sp sp0 (by omega)
      have hb : Lp Tx 12 (cutD es (some (sp + 1)) none) ∧ (cutD es (some (sp + 1)) none).length ≤ es.length - sp.toNat := by
        by_cases he : sp + 1 ≤ es.length
        · obtain ⟨b1, b2⟩ := hcuf (sp + 1) (by omega) he
          exact ⟨b1, by omega⟩
        · have e0 : cutD es (some (sp + 1)) none = [] := by
            unfold cutD
            have e1 : HT.sIx es.length es.length none = es.length := rfl
            obtain ⟨m, rfl⟩ : ∃ m : Nat, sp = (m : Int) := ⟨sp.toNat, by omega⟩
            have e2 : HT.sIx es.length 0 (some ((m : Int) + 1)) = min (m + 1) es.length := HT.sIx_nat _ _ (m + 1)
            rw [e1, e2, Nat.min_eq_right (by omega)]
            simp
          rw [e0]; exact ⟨⟨by simp, by simp⟩, by simp⟩
      refine' db_cons (ds_ret (de_bin (de_sl (de_var 1 rfl (dp_none (dp_some (de_var 3 rfl ⟨_, rfl, .inl ⟨_, rfl, de_sl (de_var 1 rfl (dp_some (de_bin (de_var 3 rfl (de_int (o2_add ⟨_, rfl, dp_none (.inl ⟨_, rfl, o2_catL ?_ (hp _ ?_)⟩)⟩))))))⟩⟩))))))); walk_at "nn"
      · exact s9 (by omega)
      · exact a1.app hb.1 (by omega)
      all_goals exact 0
    refine' db_cons (ds_if (dt_cmp (de_var 3 rfl (de_callB T.len PySem.boot_len (da_cons (de_var 1 rfl (da_nil (oc_len_lst (o2_eqI (PB.i ⟨fun h => ?_, fun h => ?_⟩)))))))))); walk_at "nn"
    · refine' db_cons (ds_ret (de_var 1 rfl (hp _ hL))); walk_at "nn"
      all_goals exact 0
    have hne := of_decide_eq_false h
    have hlt : sp < es.length := by omega
    obtain ⟨dw, hdw, hat⟩ := Dx.at_mem (es := es) (i := sp) (by omega) hlt
    obtain ⟨wd, rfl, hwd⟩ := hL.2 dw hdw
    obtain ⟨a1, a2⟩ := hcut sp sp0 (by omega)
    obtain ⟨b1, b2⟩ := hcuf (sp + 1) (by omega) (by omega)
    refine' db_nil (db_cons (ds_asg 4 scBent.nd (de_ix (de_var 1 rfl (de_var 3 rfl ⟨_, rfl, .inl ⟨_, _, .inl rfl, hat, ?_⟩⟩))))); walk_at "nn"
    refine' db_cons (ds_ifK (dt_w (dw_and (dt_cmp (de_var 2 rfl (de_int (o2_eqI (PB.i ⟨fun h => ?_, fun h h2 => (by cases h2)⟩))))))) ?_); walk_at "nn"
    · refine' dw_one (dt_cmp (de_callB T.len PySem.boot_len (da_cons (de_var 1 rfl (da_nil (oc_len_lst (de_int (o2_lt (PB.i fun h2 => ?_))))))))); walk_at "nn"
      have h2 := of_decide_eq_true h2
      refine' db_cons (ds_ret (de_bin (de_var 1 rfl (de_lst (da_cons (de_var 4 rfl (da_nil ⟨sz9 (Nat.le_of_ble_eq_true rfl), o2_catL ?_ (hp _ ?_)⟩))))))); walk_at "nn"
      · exact s9 (by simp; omega)
      · exact hL.app (Lp.one hwd) (by simp; omega)
      all_goals exact 0
    refine' db_cons (ds_ifK (dt_cmp (de_var 2 rfl (de_int (o2_eqI (PB.i fun h => ?_))))) ?_); walk_at "nn"
    · refine' db_cons (ds_asg 5 scBent.nd (de_call F1 hr (by decide) (da_cons (de_var 0 rfl (da_cons (de_callB T.len PySem.boot_len (da_cons (de_var 4 rfl (da_nil (oc_len_str (sz9 (by have := hwd.2.1; omega)) (da_nil ⟨rfl, _, rfl, by have := hwd.1; omega, pow200 (by have := hwd.2.1; omega), fun at' t0 t1 => ?_⟩))))))))))); walk_at "nn"
      have h8 := hwd.2.1
      refine' db_cons (ds_ret (de_bin (de_bin (de_sl (de_var 1 rfl (dp_none (dp_some (de_var 3 rfl ⟨_, rfl, .inl ⟨_, rfl, de_lst (da_cons ?_)⟩⟩)))))))); walk_at "nn"
      refine' de_bin (de_bin (de_sl (de_var 4 rfl (dp_none (dp_some (de_var 5 rfl ⟨_, rfl, .inr (.inl ⟨_, rfl, sz9 (by omega), ?_⟩)⟩)))))); walk_at "nn"
      refine' de_call F2 hr (by decide) (da_cons (de_var 0 rfl (da_cons (de_str (da_nil ⟨rfl, .inr ⟨_, rfl, by decide +kernel, by decide +kernel, fun ch hc => ?_⟩⟩))))); walk_at "nn"
      have e : ("abc" : Str).cps.toList = [97, 98, 99] := by decide +kernel
      rw [e] at hc
      have hc : ch = 97 ∨ ch = 98 ∨ ch = 99 := by simpa using hc
      rw [cutS_to t0 (by omega)]
      have hsz : (ofL (wd.cps.toList.take at'.toNat)).length ≤ 8 := by rw [len_cp, cp_ofL, List.length_take]; rw [len_cp] at h8; omega
      have hsz1 : (sg ch).length = 1 := rfl
      refine' o2_cat (sz9 (by omega)) (de_sl (de_var 4 rfl (dp_some (de_bin (de_var 5 rfl (de_int (o2_add ⟨_, rfl, dp_none (.inr (.inl ⟨_, rfl, sz9 (by omega), ?_⟩))⟩))))))); walk_at "nn"
      rw [cutS_from (by omega) (by omega)]
      have e3 : (at' + 1).toNat = at'.toNat + 1 := by omega
      rw [e3]
      have ht := tx_put hwd (show at'.toNat < wd.length by omega) hc
      have hsz2 : (ofL (wd.cps.toList.drop (at'.toNat + 1))).length ≤ 8 := by rw [len_cp, cp_ofL, List.length_drop]; rw [len_cp] at h8; omega
      have hsz3 : (ofL (wd.cps.toList.take at'.toNat) ++ sg ch).length ≤ 9 := by rw [len_cp, cp_app, List.length_append, ← len_cp, ← len_cp]; omega
      refine' o2_cat (sz9 (by omega)) (da_nil ⟨sz9 (Nat.le_of_ble_eq_true rfl), o2_catL ?_ (de_sl (de_var 1 rfl (dp_some (de_bin (de_var 3 rfl (de_int (o2_add ⟨_, rfl, dp_none (.inl ⟨_, rfl, o2_catL ?_ (hp _ ?_)⟩)⟩)))))))⟩); walk_at "nn"
      · exact s9 (by simp; omega)
      · exact s9 (by simp; omega)
      · exact (a1.app (Lp.one ht) (Nat.le_refl _)).app b1 (by simp; omega)
      all_goals exact 0
    obtain ⟨da, hda, hata⟩ := Dx.at_mem (es := es) (i := sp - 1) (by omega) (by omega)
    obtain ⟨ad, rfl, had⟩ := hL.2 da hda
    refine' db_cons (ds_asg 6 scBent.nd (de_ix (de_var 1 rfl (de_bin (de_var 3 rfl (de_int (o2_sub ⟨_, rfl, .inl ⟨_, _, .inl rfl, hata, ?_⟩⟩))))))); walk_at "nn"
    refine' db_cons (ds_ifK (dt_w (dw_and (dt_cmp (de_var 2 rfl (de_int (o2_eqI (PB.i ⟨fun h => ?_, fun h h2 => (by cases h2)⟩))))))) ?_); walk_at "nn"
    · have w8 := hwd.2.1
      have a8 := had.2.1
      refine' dw_and (dt_cmp (de_var 3 rfl (de_int (o2_gt (PB.i ⟨fun h2 => ?_, fun h2 h3 => (by cases h3)⟩))))); walk_at "nn"
      refine' dw_one (dt_cmp (de_bin (de_callB T.len PySem.boot_len (da_cons (de_var 4 rfl (da_nil (oc_len_str (sz9 (by omega)) (de_callB T.len PySem.boot_len (da_cons (de_var 6 rfl (da_nil (oc_len_str (sz9 (by omega)) (o2_add (de_int (o2_le (PB.i fun h3 => ?_)))))))))))))))); walk_at "nn"
      have h2 := of_decide_eq_true h2
      have h3 := of_decide_eq_true h3
      obtain ⟨c1, c2⟩ := hcut (sp - 1) (by omega) (by omega)
      have ht := tx_app had hwd (by omega)
      refine' db_cons (ds_ret (de_bin (de_bin (de_sl (de_var 1 rfl (dp_none (dp_some (de_bin (de_var 3 rfl (de_int (o2_sub ⟨_, rfl, .inl ⟨_, rfl, de_lst (da_cons (de_bin (de_var 6 rfl (de_var 4 rfl (o2_cat (sz9 (by omega)) (da_nil ⟨sz9 (Nat.le_of_ble_eq_true rfl), o2_catL ?_ (de_sl (de_var 1 rfl (dp_some (de_bin (de_var 3 rfl (de_int (o2_add ⟨_, rfl, dp_none (.inl ⟨_, rfl, o2_catL ?_ (hp _ ?_)⟩)⟩)))))))⟩))))))⟩⟩))))))))))); walk_at "nn"
      · exact s9 (by simp; omega)
      · exact s9 (by simp; omega)
      · exact (c1.app (Lp.one ht) (Nat.le_refl _)).app b1 (by simp; omega)
      all_goals exact 0
    refine' db_cons (ds_ifK (dt_cmp (de_var 2 rfl (de_int (o2_eqI (PB.i fun h => ?_))))) ?_); walk_at "nn"
    · refine' db_cons (ds_ret (de_bin (de_bin (de_sl (de_var 1 rfl (dp_none (dp_some (de_var 3 rfl ⟨_, rfl, .inl ⟨_, rfl, de_lst (da_cons (de_call F2 hr (by decide) (da_cons (de_var 0 rfl (da_cons (de_var 1 rfl (da_nil ⟨rfl, .inl ⟨_, rfl, by omega, by omega, fun d hd => da_nil ?_⟩⟩)))))))⟩⟩)))))))); walk_at "nn"
      obtain ⟨z, rfl, hz'⟩ := hL.2 d hd
      refine' ⟨sz9 (Nat.le_of_ble_eq_true rfl), o2_catL ?_ (de_sl (de_var 1 rfl (dp_some (de_bin (de_var 3 rfl (de_int (o2_add ⟨_, rfl, dp_none (.inl ⟨_, rfl, o2_catL ?_ (hp _ ?_)⟩)⟩)))))))⟩; walk_at "nn"
      · exact s9 (by simp; omega)
      · exact s9 (by simp; omega)
      · exact (a1.app (Lp.one hz') (Nat.le_refl _)).app b1 (by simp; omega)
      all_goals exact 0
    refine' db_cons (ds_ret (de_var 1 rfl (hp _ hL))); walk_at "nn"
    all_goals exact 0
  walk_at "dz"
end
end K51
-- K51g
namespace K51
open PySem L2 Dx
local macro_rules | `(tactic| walk_at "nn") => `(tactic| iterate 24 (try ((with_reducible show Nat); rotate_left)))
local macro_rules | `(tactic| walk_at "dz") => `(tactic| ((all_goals (try (with_reducible exact (0 : Nat)))); (all_goals first | decide | omega)))
section
variable {P : Program} {w : World} {K : PySem.W.Frag} {mg : Str → Option Value} {base : Heap} {CW CR : Addr}
abbrev sRight : Stmt := top 39
theorem scRight : FnScope ["_law_one", "_law_other", "_law_due", "_law_first", "_law_second", "_law_told"] ["_law_one", "_law_other"] (defScope sRight) := ⟨rfl, rfl, rfl, by decide +kernel, rfl, by decide +kernel, by decide +kernel⟩
def spRight : SpD := fun ds post => ∃ es fs, ds = [.lst es, .lst fs] ∧ Lp Tx 12 es ∧ Lp Tx 12 fs ∧ post (.bl true)
theorem wt_oks {zs ys : List Str} (h : ∀ z ∈ zs, Tx z) (p : ys.Perm (zs.map wt)) : ∀ y ∈ ys, PyData.strOk y = true := fun y hy => by
  obtain ⟨z, hz, rfl⟩ := List.mem_map.mp (p.subset hy)
  exact (wt_Tx (h z hz)).ok
theorem ok_right {f : Addr} {fd : FuncData} (F : Fun K "_law_right" "_law_right" sRight f fd) (T : TX mg CW CR) (F1 : FnD P w K mg base 1 "_law_heaps" 1 0 spHp) (F2 : FnD P w K mg base 8 "_law_row" 1 0 (spRow CW CR)) (F3 : FnD P w K mg base 3 "alike" 2 0 (spAlike CW CR)) : FnG P w K mg base CX0 9 f fd ["_law_one", "_law_other"] (spN 2 0 spRight) := by
  refine fn_of F scRight rfl (by decide) (fun cdv A outer s H E hr ds post hl hS => ?_)
  obtain ⟨es, fs, rfl, hL, hM, hp⟩ := hS
  obtain ⟨xs, rfl, x12, tx⟩ := hL.strs
  obtain ⟨ys, rfl, y12, ty⟩ := hM.strs
  have al : ∀ {as bs : List Str}, as.length ≤ 12 → bs.length ≤ 12 → (∀ z ∈ as, Tx z) → (∀ z ∈ bs, Tx z) → ∀ {post : D → Prop}, (∀ b : Bool, (b = true ↔ (as.map wt).Perm (bs.map wt)) → post (.bl b)) → spAlike CW CR [rwD CW CR (as.map wt), rwD CW CR (bs.map wt)] post := fun {as bs} h1 h2 h3 h4 {post} h5 =>
    ⟨_, _, rfl, by simpa using h1, by simpa using h2, fun z hz => by obtain ⟨z', h, rfl⟩ := List.mem_map.mp hz; exact wt_Tx (h3 z' h), fun z hz => by obtain ⟨z', h, rfl⟩ := List.mem_map.mp hz; exact wt_Tx (h4 z' h), h5⟩
  refine' db_le (db_cons (ds_asg 2 scRight.nd (de_cmp (de_call F1 hr (by decide) (da_cons (de_var 0 rfl (da_nil ⟨rfl, _, rfl, x12, tx, fun as p1 s1 => de_call F1 hr (by decide) (da_cons (de_var 1 rfl (da_nil ⟨rfl, _, rfl, y12, ty, fun bs p2 s2 => o2_eqLS hr (wt_oks tx p1) (wt_oks ty p2) ?_⟩)))⟩))))))) ?_; walk_at "nn"
  · have hdue : decide (as = bs) = true ↔ (xs.map wt).Perm (ys.map wt) := by
      refine ⟨fun h => ?_, fun h => ?_⟩
      · have e : as = bs := of_decide_eq_true h
        subst e
        exact p1.symm.trans p2
      · exact decide_eq_true (sorted_eq (p1.trans (h.trans p2.symm)) s1 s2)
    generalize hd : decide (as = bs) = due at hdue
    refine' db_cons (ds_par 3 4 scRight.nd (by decide) (da_cons (de_call F2 hr (by decide) (da_cons (de_var 0 rfl (da_nil ⟨rfl, _, rfl, x12, tx, da_cons (de_call F2 hr (by decide) (da_cons (de_var 1 rfl (da_nil ⟨rfl, _, rfl, y12, ty, da_nil ⟨_, _, rfl, ?_⟩⟩))))⟩)))))); walk_at "nn"
    refine' db_cons (ds_asg 5 scRight.nd (de_lst (da_cons (de_call F3 hr (by decide) (da_cons (de_var 3 rfl (da_cons (de_var 4 rfl (da_nil ⟨rfl, al x12 y12 tx ty fun b1 h1 => ?_⟩)))))))) ); walk_at "nn"
    refine' da_cons (de_call F3 hr (by decide) (da_cons (de_var 4 rfl (da_cons (de_var 3 rfl (da_nil ⟨rfl, al y12 x12 ty tx fun b2 h2 => ?_⟩)))))); walk_at "nn"
    refine' da_cons (de_call F3 hr (by decide) (da_cons (de_var 3 rfl (da_cons (de_var 3 rfl (da_nil ⟨rfl, al x12 x12 tx tx fun b3 h3 => ?_⟩)))))); walk_at "nn"
    refine' da_cons (de_call F3 hr (by decide) (da_cons (de_var 4 rfl (da_cons (de_var 4 rfl (da_nil ⟨rfl, al y12 y12 ty ty fun b4 h4 => ?_⟩)))))); walk_at "nn"
    have e1 : b1 = due := by cases b1 <;> cases due <;> simp_all
    have e2 : b2 = due := by
      have : (ys.map wt).Perm (xs.map wt) ↔ (xs.map wt).Perm (ys.map wt) := ⟨fun h => h.symm, fun h => h.symm⟩
      rw [this] at h2
      cases b2 <;> cases due <;> simp_all
    have e3 : b3 = true := h3.mpr (List.Perm.refl _)
    have e4 : b4 = true := h4.mpr (List.Perm.refl _)
    subst e1 e2 e3 e4
    have hsh : ∀ b : Bool, (PyData.list [.bool b, .bool b, .bool true, .bool true]).shown.length ≤ sizeLine := fun b => by cases b <;> decide +kernel
    refine' da_nil ⟨sz9 (Nat.le_of_ble_eq_true rfl), db_cons (ds_ret (de_cmp (de_callB T.repr PyProof.Rows.boot_repr (da_cons (de_var 5 rfl (da_nil (oc_reprD hr (.inl ⟨_, rfl⟩) rfl rfl rfl (Nat.le_of_ble_eq_true rfl) (hsh _) ?_)))))))⟩; walk_at "nn"
    refine' de_callB T.repr PyProof.Rows.boot_repr (da_cons (de_lst (da_cons (de_var 2 rfl (da_cons (de_var 2 rfl (da_cons (de_bl (da_cons (de_bl (da_nil ⟨sz9 (Nat.le_of_ble_eq_true rfl), da_nil (oc_reprD hr (.inl ⟨_, rfl⟩) rfl rfl rfl (Nat.le_of_ble_eq_true rfl) (hsh _) (o2_eqS ?_))⟩))))))))))); walk_at "nn"
    rw [decide_eq_true rfl]
    exact hp
    all_goals exact 0
  walk_at "dz"
end
end K51
-- K51h
namespace K51
open PySem L2 Dx
local macro_rules | `(tactic| walk_at "nn") => `(tactic| iterate 24 (try ((with_reducible show Nat); rotate_left)))
local macro_rules | `(tactic| walk_at "dz") => `(tactic| ((all_goals (try (with_reducible exact (0 : Nat)))); (all_goals first | decide | omega)))
section
variable {P : Program} {w : World} {K : PySem.W.Frag} {mg : Str → Option Value} {base : Heap} {CW CR : Addr}
abbrev sLaw : Stmt := top 40
abbrev nLaw : List Str := ["_law_script", "_law_pen_here", "_law_turn", "_law_words_here", "_law_other", "_law_word_here", "_law_again"]
theorem scLaw : FnScope nLaw ["_law_script"] (defScope sLaw) := ⟨rfl, rfl, rfl, by decide +kernel, rfl, by decide +kernel, by decide +kernel⟩
theorem wt_count {a b : Str} (h : a.cps.toList.Perm b.cps.toList) : wt a = wt b := by
  unfold wt cN
  rw [h.count_eq, h.count_eq, h.count_eq]
theorem tx_perm {a b : Str} (h : a.cps.toList.Perm b.cps.toList) (hb : Tx b) : Tx a := by
  refine ⟨by rw [len_cp, h.length_eq, ← len_cp]; exact hb.1, by rw [len_cp, h.length_eq, ← len_cp]; exact hb.2.1, fun ch hc => hb.2.2 ch (h.subset hc)⟩
theorem join_perm {ys : List Str} {l : List Nat} (h : ys.Perm (l.map sg)) : (Txt.join "" ys).cps.toList.Perm l := by
  rw [cp_join]
  have p := (h.map fun w : Str => w.cps.toList).flatten
  refine p.trans ?_
  rw [List.map_map]
  have : ∀ l : List Nat, (l.map ((fun w : Str => w.cps.toList) ∘ sg)).flatten = l := by
    intro l
    induction l with
    | nil => rfl
    | cons a l ih => simp [sg] at ih ⊢; exact ih
  rw [this]
theorem ok_law {f g : Addr} {fd gd : FuncData} (F : Fun K "law" "law" sLaw f fd) (G : FnG P w K mg base CX0 1 g gd ["_law_script"] (spPen K)) (gm : mg "_law_pen" = some (.ref g)) (gk : PySem.W.keepIn K (.ref g) = true) (gb : Binds K gd ["_law_script"] []) (T : TX mg CW CR) (F1 : FnD P w K mg base 4 "_law_words" 2 130 spWords)
    (F2 : FnD P w K mg base 2 "_law_stirred" 2 13 spStir) (F3 : FnD P w K mg base 1 "_law_heaps" 1 0 spHp) (F4 : FnD P w K mg base 9 "_law_right" 2 0 spRight) (F5 : FnD P w K mg base 4 "_law_bent" 2 20 spBent) : FnG P w K mg base CX0 10 f fd ["_law_script"] (spLaw K) := by
  refine law_of (c := 100000) F scLaw rfl ⟨_, rfl⟩ G gm gk gb (by decide) (by decide) (fun cdv A outer s H E hr => ?_)
  refine' db_le (db_cons (ds_forC 2 12 PassesOwn.never (pg_name scLaw.nd rfl (Or.inl rfl)) (di_range1 T.range (da_cons (de_int (da_nil ⟨_, rfl, by decide, by decide, by decide, fun Γ => ∃ a2 a3 a4 a5 a6 : Sl, Γ = [.no, .va .pen, a2, a3, a4, a5, a6], ⟨_, _, _, _, _, rfl⟩, fun Γ hI => ?_, fun d Γ hd hI => ?_⟩)))))) ?_; walk_at "nn"
  · obtain ⟨a2, a3, a4, a5, a6, rfl⟩ := hI
    have txa : Tx "a" := ⟨by decide +kernel, by decide +kernel, fun ch hc => by
      have e : ("a" : Str).cps.toList = [97] := by decide +kernel
      rw [e] at hc; simp at hc; omega⟩
    have txb : Tx "b" := ⟨by decide +kernel, by decide +kernel, fun ch hc => by
      have e : ("b" : Str).cps.toList = [98] := by decide +kernel
      rw [e] at hc; simp at hc; omega⟩
    have txab : Tx "ab" := ⟨by decide +kernel, by decide +kernel, fun ch hc => by
      have e : ("ab" : Str).cps.toList = [97, 98] := by decide +kernel
      rw [e] at hc; simp at hc; omega⟩
    have l0 : Lp Tx 12 [] := ⟨by simp, by simp⟩
    have l1 : Lp Tx 12 [D.str "a"] := ⟨by simp, fun d hd => ⟨_, List.mem_singleton.mp hd, txa⟩⟩
    have l2 : Lp Tx 12 [D.str "ab"] := ⟨by simp, fun d hd => ⟨_, List.mem_singleton.mp hd, txab⟩⟩
    have l3 : Lp Tx 12 [D.str "a", D.str "b"] := ⟨by simp, fun d hd => by
      rcases List.mem_cons.mp hd with h | h
      · exact ⟨_, h, txa⟩
      · exact ⟨_, List.mem_singleton.mp h, txb⟩⟩
    refine' db_cons (ds_ret (de_and (de_call F4 hr (by decide) (da_cons (de_lst (da_nil ⟨sz9 (Nat.le_of_ble_eq_true rfl), da_cons (de_lst (da_nil ⟨sz9 (Nat.le_of_ble_eq_true rfl), da_nil ⟨rfl, _, _, rfl, l0, l0, _, rfl, fun _ => ?_, fun h => by cases h⟩⟩))⟩)))))); walk_at "nn"
    refine' de_and (de_call F4 hr (by decide) (da_cons (de_lst (da_cons (de_str (da_nil ⟨sz9 (Nat.le_of_ble_eq_true rfl), da_cons (de_lst (da_nil ⟨sz9 (Nat.le_of_ble_eq_true rfl), da_nil ⟨rfl, _, _, rfl, l1, l0, _, rfl, fun _ => ?_, fun h => by cases h⟩⟩))⟩)))))); walk_at "nn"
    refine' de_one (de_call F4 hr (by decide) (da_cons (de_lst (da_cons (de_str (da_nil ⟨sz9 (Nat.le_of_ble_eq_true rfl), da_cons (de_lst (da_cons (de_str (da_cons (de_str (da_nil ⟨sz9 (Nat.le_of_ble_eq_true rfl), da_nil ⟨rfl, _, _, rfl, l2, l3, rfl⟩⟩))))))⟩)))))); walk_at "nn"
    all_goals exact 0
  · obtain ⟨a2, a3, a4, a5, a6, rfl⟩ := hI
    refine' db_cons (ds_asg 3 scLaw.nd (de_call F1 hr (by decide) (da_cons (de_var 1 rfl (da_cons (de_int (da_nil ⟨rfl, 12, rfl, by decide, fun zs zl zt => ?_⟩))))))); walk_at "nn"
    refine' db_cons (ds_asgLc 4 scLaw.nd ?_); walk_at "nn"
    refine' dc_lc 5 12 (blkOk_by (by kernel_rfl)) (fun _ _ _ _ _ => pg_name scLaw.nd rfl (Or.inl rfl)) ?_; walk_at "nn"
    refine' di_list (de_call F2 hr (by decide) (da_cons (de_var 1 rfl (da_cons (de_var 3 rfl (da_nil ⟨rfl, zs, .inl rfl, zl, fun z hz => (zt z hz).ok, fun ys yp => ⟨_, rfl, ?_⟩⟩)))))); walk_at "nn"
    have y12 : ys.length ≤ 12 := by rw [yp.length_eq]; exact zl
    have yt : ∀ y ∈ ys, Tx y := fun y hy => zt y (yp.subset hy)
    refine' ⟨by simpa using y12, by simp; omega, fun i acc => ∃ ws : List Str, acc = ws.map D.str ∧ ws.map wt = (ys.take i).map wt ∧ ∀ w ∈ ws, Tx w, ⟨[], rfl, by simp, by simp⟩, fun acc hI => ?_, fun i d acc hd hI s H C cl fp => ?_⟩
    · obtain ⟨ws, rfl, hw, wtx⟩ := hI
      rw [List.length_map, List.take_length] at hw
      have w12 : ws.length ≤ 12 := by
        have := congrArg List.length hw
        simp at this; omega
      have L1 : Lp Tx 12 (zs.map D.str) := Lp.of zl zt
      have L2 : Lp Tx 12 (ws.map D.str) := Lp.of w12 wtx
      refine' db_cons (ds_ifF (dt_w (dw_or (dt_cmp (de_call F3 hr (by decide) (da_cons (de_var 3 rfl (da_nil ⟨rfl, zs, rfl, zl, zt, fun as p1 s1 => de_call F3 hr (by decide) (da_cons (de_var 4 rfl (da_nil ⟨rfl, ws, rfl, w12, wtx, fun bs p2 s2 => o2_neLS hr (wt_oks zt p1) (wt_oks wtx p2) (PB.i ⟨fun _ => ?_, fun h => ?_⟩)⟩)))⟩)))))))) ; walk_at "nn"
      · refine' dw_one (dt_not (dt_val (de_call F4 hr (by decide) (da_cons (de_var 3 rfl (da_cons (de_var 4 rfl (da_nil ⟨rfl, _, _, rfl, L1, L2, ob_bl ⟨rfl, db_nil ?_⟩⟩)))))))); walk_at "nn"
        refine' db_cons (ds_forC 6 2 PassesOwn.never (pg_name scLaw.nd rfl (Or.inl rfl)) (di_range1 T.range (da_cons (de_int (da_nil ⟨_, rfl, by decide, by decide, by decide, fun Γ => ∃ a2 a5 a6 : Sl, Γ = [.no, .va .pen, a2, .va (.lst (zs.map D.str)), .va (.lst (ws.map D.str)), a5, a6], ⟨_, _, _, rfl⟩, fun Γ hI => ?_, fun d Γ hd hI => ?_⟩))))); walk_at "nn"
        · obtain ⟨b2, b5, b6, rfl⟩ := hI
          refine' db_cons (ds_ifF (dt_not (dt_val (de_call F4 hr (by decide) (da_cons (de_var 3 rfl (da_cons (de_call F1 hr (by decide) (da_cons (de_var 1 rfl (da_cons (de_int (da_nil ⟨rfl, 3, rfl, by decide, fun vs vl vt => da_nil ⟨rfl, _, _, rfl, L1, Lp.of (by omega) vt, ob_bl ⟨rfl, db_nil (db_nil ⟨_, _, _, _, _, rfl⟩)⟩⟩⟩))))))))))))); walk_at "nn"
        · obtain ⟨b2, b5, b6, rfl⟩ := hI
          refine' db_cons (ds_ifF (dt_not (dt_val (de_call F4 hr (by decide) (da_cons (de_var 3 rfl (da_cons (de_call F5 hr (by decide) (da_cons (de_var 1 rfl (da_cons (de_var 4 rfl (da_nil ⟨rfl, _, rfl, L2, fun fs hfs => da_nil ⟨rfl, _, _, rfl, L1, hfs, ob_bl ⟨rfl, db_nil (db_nil ⟨_, _, _, rfl⟩)⟩⟩⟩))))))))))))); walk_at "nn"
        all_goals exact 0
      · have e : as = bs := by
          refine sorted_eq (p1.trans (List.Perm.trans ?_ p2.symm)) s1 s2
          rw [hw]
          exact (yp.map wt).symm
        rw [decide_eq_true e] at h
        cases h
    · obtain ⟨ws, rfl, hw, wtx⟩ := hI
      rw [List.getElem?_map] at hd
      cases e : ys[i]? with
      | none => rw [e] at hd; cases hd
      | some y =>
        rw [e] at hd; cases hd
        have ty := yt y (List.mem_of_getElem? e)
        have h8 := ty.2.1
        rw [len_cp] at h8
        refine' de_bm PySem.F.plainAttrs_str PySem.F.slot_str_join PySem.F.type_str_join mt_join (de_str ⟨rfl, da_cons (de_call F2 hr (by decide) (da_cons (de_var 1 rfl (da_cons (de_var 5 rfl (da_nil ⟨rfl, y.cps.toList.map sg, .inr ⟨y, rfl, rfl⟩, by rw [List.length_map]; omega, ?_, fun vs vp => da_nil (om_join ?_ ?_)⟩))))))⟩); walk_at "nn"
        · intro z hz
          obtain ⟨ch, hc, rfl⟩ := List.mem_map.mp hz
          have : Tx (sg ch) := ⟨Nat.le_refl 1, Nat.le_of_ble_eq_true rfl, fun c hc' => by
            have : c = ch := by simpa [sg] using hc'
            rw [this]; exact ty.2.2 ch hc⟩
          exact this.ok
        · rw [sum_sg vs fun y hy => by
            obtain ⟨ch, _, e⟩ := List.mem_map.mp (vp.subset hy)
            exact ⟨ch, e.symm⟩]
          have h1 := vp.length_eq
          rw [List.length_map] at h1
          have : ("" : Str).length = 0 := by decide +kernel
          rw [this]
          omega
        · have jp := join_perm vp
          refine ⟨ws ++ [Txt.join "" vs], by simp, ?_, fun w hw' => ?_⟩
          · rw [List.map_append, hw, List.take_succ, e]
            simp [wt_count jp]
          · rcases List.mem_append.mp hw' with h | h
            · exact wtx w h
            · rw [List.mem_singleton.mp h]; exact tx_perm jp ty
        all_goals exact 0
    all_goals exact 0
  walk_at "dz"
end
end K51
-- K51z
namespace K51
open PySem L2 Dx
local macro_rules | `(tactic| walk_at "nn") => `(tactic| iterate 24 (try ((with_reducible show Nat); rotate_left)))
local macro_rules | `(tactic| walk_at "dz") => `(tactic| ((all_goals (try (with_reducible exact (0 : Nat)))); (all_goals first | decide | omega)))
theorem all_mk {l : PySem.W.OpenLaw} {w : World} {K : PySem.W.Frag} {h : Heap} {mg : Str → Option Value} {fa CW CR f1 f2 f3 f4 f5 f6 f7 f8 f9 f10 f11 f12 f13 f14 f15 f16 f17 f18 f19 f20 : Addr} (X : K.In h) (G : h.Ns mainGlobals mg) (hfa : mg "law" = some (.ref fa))
    {oc1 kV1 dc1 pm1 cd1 ct1 : Value} {od1 an1 : Option Addr} {sl1 : Array (Option Value)} {oc2 kV2 dc2 pm2 cd2 ct2 : Value} {od2 an2 : Option Addr} {sl2 : Array (Option Value)} {oc3 kV3 dc3 pm3 cd3 ct3 : Value} {od3 an3 : Option Addr} {sl3 : Array (Option Value)} {p3 : Addr} {rs3 : List Value} {oc4 kV4 dc4 pm4 cd4 ct4 : Value} {od4 an4 : Option Addr} {sl4 : Array (Option Value)} {oc5 kV5 dc5 pm5 cd5 ct5 : Value} {od5 an5 : Option Addr} {sl5 : Array (Option Value)} {oc6 kV6 dc6 pm6 cd6 ct6 : Value} {od6 an6 : Option Addr} {sl6 : Array (Option Value)} {oc7 kV7 dc7 pm7 cd7 ct7 : Value} {od7 an7 : Option Addr} {sl7 : Array (Option Value)} {oc8 kV8 dc8 pm8 cd8 ct8 : Value} {od8 an8 : Option Addr} {sl8 : Array (Option Value)} {oc9 kV9 dc9 pm9 cd9 ct9 : Value} {od9 an9 : Option Addr} {sl9 : Array (Option Value)} {oc10 kV10 dc10 pm10 cd10 ct10 : Value} {od10 an10 : Option Addr} {sl10 : Array (Option Value)} {oc11 kV11 dc11 pm11 cd11 ct11 : Value} {od11 an11 : Option Addr} {sl11 : Array (Option Value)} {oc12 kV12 dc12 pm12 cd12 ct12 : Value} {od12 an12 : Option Addr} {sl12 : Array (Option Value)} {oc13 kV13 dc13 pm13 cd13 ct13 : Value} {od13 an13 : Option Addr} {sl13 : Array (Option Value)} {oc14 kV14 dc14 pm14 cd14 ct14 : Value} {od14 an14 : Option Addr} {sl14 : Array (Option Value)} {oc15 kV15 dc15 pm15 cd15 ct15 : Value} {od15 an15 : Option Addr} {sl15 : Array (Option Value)} {oc16 kV16 dc16 pm16 cd16 ct16 : Value} {od16 an16 : Option Addr} {sl16 : Array (Option Value)} {oc17 kV17 dc17 pm17 cd17 ct17 : Value} {od17 an17 : Option Addr} {sl17 : Array (Option Value)} {oc18 kV18 dc18 pm18 cd18 ct18 : Value} {od18 an18 : Option Addr} {sl18 : Array (Option Value)} {oc19 kV19 dc19 pm19 cd19 ct19 : Value} {od19 an19 : Option Addr} {sl19 : Array (Option Value)} {oc20 kV20 dc20 pm20 cd20 ct20 : Value} {od20 an20 : Option Addr} {sl20 : Array (Option Value)} {fo2 : Addr} {t_LETTERS_words : Tok} {t_MOST_LETTERS : Tok} {t_MOST_WORDS : Tok}
    (aCW : PySem.W.nsIn K mainGlobals "Word" = some (some (.ref CW)))
    (aCR : PySem.W.nsIn K mainGlobals "Row" = some (some (.ref CR)))
    (a1 : PySem.W.nsIn K mainGlobals "is_text" = some (some (.ref f1)))
    (l1 : K.lookup f1 = some ⟨oc1, od1, .func (PySem.W.fnOf "is_text" "is_text" (defArgs sIsText) (defBody sIsText) (defScope sIsText) .none kV1 dc1 pm1 an1 cd1 ct1), sl1⟩)
    (c1 : PySem.W.codeIn K cd1 "is_text" = true)
    (k1 : PySem.W.keepIn K (.ref f1) = true)
    (a2 : PySem.W.findIn K (.ref CW) "__init__" = some (some (.ref f2)))
    (i2 : PySem.W.isFn K (.ref f2) = true)
    (l2 : K.lookup f2 = some ⟨oc2, od2, .func (PySem.W.fnOf "__init__" "Word.__init__" (defArgs sWI) (defBody sWI) (defScope sWI) .none kV2 dc2 pm2 an2 cd2 ct2), sl2⟩)
    (c2 : PySem.W.codeIn K cd2 "Word.__init__" = true)
    (k2 : PySem.W.keepIn K (.ref f2) = true)
    (r3 : PySem.W.readsIn K CW (.type "type") = true)
    (g3 : PySem.W.specialIn K (.ref CW) "__getattribute__" = some (some (.builtin "type.__getattribute__")))
    (q3 : PySem.W.findCls K (.ref CW) (.type "type") "of" = some (.get (.builtin "staticmethod.__get__") (.ref p3) .none (.ref CW)))
    (a3 : PySem.W.recIn K p3 "staticmethod" = some (.ref f3 :: rs3))
    (l3 : K.lookup f3 = some ⟨oc3, od3, .func (PySem.W.fnOf "of" "Word.of" (defArgs sOf) (defBody sOf) (defScope sOf) .none kV3 dc3 pm3 an3 cd3 ct3), sl3⟩)
    (c3 : PySem.W.codeIn K cd3 "Word.of" = true)
    (k3 : PySem.W.keepIn K (.ref f3) = true)
    (a4 : PySem.W.nsIn K mainGlobals "is_word" = some (some (.ref f4)))
    (l4 : K.lookup f4 = some ⟨oc4, od4, .func (PySem.W.fnOf "is_word" "is_word" (defArgs sIsWord) (defBody sIsWord) (defScope sIsWord) .none kV4 dc4 pm4 an4 cd4 ct4), sl4⟩)
    (c4 : PySem.W.codeIn K cd4 "is_word" = true)
    (k4 : PySem.W.keepIn K (.ref f4) = true)
    (a5 : PySem.W.nsIn K mainGlobals "texts_of" = some (some (.ref f5)))
    (l5 : K.lookup f5 = some ⟨oc5, od5, .func (PySem.W.fnOf "texts_of" "texts_of" (defArgs sTexts) (defBody sTexts) (defScope sTexts) .none kV5 dc5 pm5 an5 cd5 ct5), sl5⟩)
    (c5 : PySem.W.codeIn K cd5 "texts_of" = true)
    (k5 : PySem.W.keepIn K (.ref f5) = true)
    (a6 : PySem.W.findIn K (.ref CR) "__init__" = some (some (.ref f6)))
    (i6 : PySem.W.isFn K (.ref f6) = true)
    (l6 : K.lookup f6 = some ⟨oc6, od6, .func (PySem.W.fnOf "__init__" "Row.__init__" (defArgs sRI) (defBody sRI) (defScope sRI) .none kV6 dc6 pm6 an6 cd6 ct6), sl6⟩)
    (c6 : PySem.W.codeIn K cd6 "Row.__init__" = true)
    (k6 : PySem.W.keepIn K (.ref f6) = true)
    (a7 : PySem.W.findIn K (.ref CR) "heaps" = some (some (.ref f7)))
    (i7 : PySem.W.isFn K (.ref f7) = true)
    (l7 : K.lookup f7 = some ⟨oc7, od7, .func (PySem.W.fnOf "heaps" "Row.heaps" (defArgs sHeaps) (defBody sHeaps) (defScope sHeaps) .none kV7 dc7 pm7 an7 cd7 ct7), sl7⟩)
    (c7 : PySem.W.codeIn K cd7 "Row.heaps" = true)
    (k7 : PySem.W.keepIn K (.ref f7) = true)
    (a8 : PySem.W.findIn K (.ref CR) "__or__" = some (some (.ref f8)))
    (i8 : PySem.W.isFn K (.ref f8) = true)
    (l8 : K.lookup f8 = some ⟨oc8, od8, .func (PySem.W.fnOf "__or__" "Row.__or__" (defArgs sOr) (defBody sOr) (defScope sOr) .none kV8 dc8 pm8 an8 cd8 ct8), sl8⟩)
    (c8 : PySem.W.codeIn K cd8 "Row.__or__" = true)
    (k8 : PySem.W.keepIn K (.ref f8) = true)
    (a9 : PySem.W.nsIn K mainGlobals "alike" = some (some (.ref f9)))
    (l9 : K.lookup f9 = some ⟨oc9, od9, .func (PySem.W.fnOf "alike" "alike" (defArgs sAlike) (defBody sAlike) (defScope sAlike) .none kV9 dc9 pm9 an9 cd9 ct9), sl9⟩)
    (c9 : PySem.W.codeIn K cd9 "alike" = true)
    (k9 : PySem.W.keepIn K (.ref f9) = true)
    (a10 : PySem.W.nsIn K mainGlobals "_law_pen" = some (some (.ref f10)))
    (l10 : K.lookup f10 = some ⟨oc10, od10, .func (PySem.W.fnOf "_law_pen" "_law_pen" (defArgs sPen) (defBody sPen) (defScope sPen) .none kV10 dc10 pm10 an10 cd10 ct10), sl10⟩)
    (c10 : PySem.W.codeIn K cd10 "_law_pen" = true)
    (k10 : PySem.W.keepIn K (.ref f10) = true)
    (a11 : PySem.W.nsIn K mainGlobals "_law_draw" = some (some (.ref f11)))
    (l11 : K.lookup f11 = some ⟨oc11, od11, .func (PySem.W.fnOf "_law_draw" "_law_draw" (defArgs sDraw) (defBody sDraw) (defScope sDraw) .none kV11 dc11 pm11 an11 cd11 ct11), sl11⟩)
    (c11 : PySem.W.codeIn K cd11 "_law_draw" = true)
    (k11 : PySem.W.keepIn K (.ref f11) = true)
    (a12 : PySem.W.nsIn K mainGlobals "_law_pick" = some (some (.ref f12)))
    (l12 : K.lookup f12 = some ⟨oc12, od12, .func (PySem.W.fnOf "_law_pick" "_law_pick" (defArgs sPick) (defBody sPick) (defScope sPick) .none kV12 dc12 pm12 an12 cd12 ct12), sl12⟩)
    (c12 : PySem.W.codeIn K cd12 "_law_pick" = true)
    (k12 : PySem.W.keepIn K (.ref f12) = true)
    (a13 : PySem.W.nsIn K mainGlobals "_law_word" = some (some (.ref f13)))
    (l13 : K.lookup f13 = some ⟨oc13, od13, .func (PySem.W.fnOf "_law_word" "_law_word" (defArgs sWord) (defBody sWord) (defScope sWord) .none kV13 dc13 pm13 an13 cd13 ct13), sl13⟩)
    (c13 : PySem.W.codeIn K cd13 "_law_word" = true)
    (k13 : PySem.W.keepIn K (.ref f13) = true)
    (a14 : PySem.W.nsIn K mainGlobals "_law_words" = some (some (.ref f14)))
    (l14 : K.lookup f14 = some ⟨oc14, od14, .func (PySem.W.fnOf "_law_words" "_law_words" (defArgs sWords) (defBody sWords) (defScope sWords) .none kV14 dc14 pm14 an14 cd14 ct14), sl14⟩)
    (c14 : PySem.W.codeIn K cd14 "_law_words" = true)
    (k14 : PySem.W.keepIn K (.ref f14) = true)
    (a15 : PySem.W.nsIn K mainGlobals "_law_stirred" = some (some (.ref f15)))
    (l15 : K.lookup f15 = some ⟨oc15, od15, .func (PySem.W.fnOf "_law_stirred" "_law_stirred" (defArgs sStir) (defBody sStir) (defScope sStir) .none kV15 dc15 pm15 an15 cd15 ct15), sl15⟩)
    (c15 : PySem.W.codeIn K cd15 "_law_stirred" = true)
    (k15 : PySem.W.keepIn K (.ref f15) = true)
    (a16 : PySem.W.nsIn K mainGlobals "_law_row" = some (some (.ref f16)))
    (l16 : K.lookup f16 = some ⟨oc16, od16, .func (PySem.W.fnOf "_law_row" "_law_row" (defArgs sRow) (defBody sRow) (defScope sRow) .none kV16 dc16 pm16 an16 cd16 ct16), sl16⟩)
    (c16 : PySem.W.codeIn K cd16 "_law_row" = true)
    (k16 : PySem.W.keepIn K (.ref f16) = true)
    (a17 : PySem.W.nsIn K mainGlobals "_law_heaps" = some (some (.ref f17)))
    (l17 : K.lookup f17 = some ⟨oc17, od17, .func (PySem.W.fnOf "_law_heaps" "_law_heaps" (defArgs sHp) (defBody sHp) (defScope sHp) .none kV17 dc17 pm17 an17 cd17 ct17), sl17⟩)
    (c17 : PySem.W.codeIn K cd17 "_law_heaps" = true)
    (k17 : PySem.W.keepIn K (.ref f17) = true)
    (a18 : PySem.W.nsIn K mainGlobals "_law_bent" = some (some (.ref f18)))
    (l18 : K.lookup f18 = some ⟨oc18, od18, .func (PySem.W.fnOf "_law_bent" "_law_bent" (defArgs sBent) (defBody sBent) (defScope sBent) .none kV18 dc18 pm18 an18 cd18 ct18), sl18⟩)
    (c18 : PySem.W.codeIn K cd18 "_law_bent" = true)
    (k18 : PySem.W.keepIn K (.ref f18) = true)
    (a19 : PySem.W.nsIn K mainGlobals "_law_right" = some (some (.ref f19)))
    (l19 : K.lookup f19 = some ⟨oc19, od19, .func (PySem.W.fnOf "_law_right" "_law_right" (defArgs sRight) (defBody sRight) (defScope sRight) .none kV19 dc19 pm19 an19 cd19 ct19), sl19⟩)
    (c19 : PySem.W.codeIn K cd19 "_law_right" = true)
    (k19 : PySem.W.keepIn K (.ref f19) = true)
    (a20 : PySem.W.nsIn K mainGlobals "law" = some (some (.ref f20)))
    (l20 : K.lookup f20 = some ⟨oc20, od20, .func (PySem.W.fnOf "law" "law" (defArgs sLaw) (defBody sLaw) (defScope sLaw) .none kV20 dc20 pm20 an20 cd20 ct20), sl20⟩)
    (c20 : PySem.W.codeIn K cd20 "law" = true)
    (k20 : PySem.W.keepIn K (.ref f20) = true)
    (pgCW : PySem.W.plainGet K CW Str.empty = true)
    (hdCW : PySem.W.hasDictIn K CW = true)
    (poCW : PySem.W.plainOver K CW = true)
    (saCW : PySem.W.findIn K (.ref CW) "__setattr__" = some (some (.builtin "object.__setattr__")))
    (mkCW : PySem.W.makesIn K CW = true)
    (kpCW : PySem.W.keepIn K (.ref CW) = true)
    (naCW_text : PySem.W.findIn K (.ref CW) "text" = some none)
    (haCW : PySem.W.findIn K (.ref CW) "__class__" = some (some (.builtin "object.__class__")))
    (hnCW : PySem.W.specialIn K (.builtin "object.__class__") "__get__" = some (some (.builtin "getset_descriptor.__get__")))
    (htkCW : PySem.W.takesIn K (.builtin "object.__class__") = some true)
    (hmCW : PySem.W.mroIn K CW (.type "object") = some true)
    (pgCR : PySem.W.plainGet K CR Str.empty = true)
    (hdCR : PySem.W.hasDictIn K CR = true)
    (poCR : PySem.W.plainOver K CR = true)
    (saCR : PySem.W.findIn K (.ref CR) "__setattr__" = some (some (.builtin "object.__setattr__")))
    (mkCR : PySem.W.makesIn K CR = true)
    (kpCR : PySem.W.keepIn K (.ref CR) = true)
    (naCR_words : PySem.W.findIn K (.ref CR) "words" = some none)
    (icCW : PySem.W.isClsIn K CW = true)
    (tyCW : PySem.W.typeIn K (.ref CW) = some (.type "type"))
    (subW : PySem.W.subIn K (.type "str") (.ref CW) = some false)
    (o1 : PySem.W.selfFirst K CR = true)
    (o2 : PySem.W.findIn K (.ref CR) "__ror__" = some (some (.ref fo2)))
    (o5 : PySem.W.subIn K (.type "str") (.ref CR) = some false)
    (z_int : PySem.W.nsIn K mainGlobals "int" = some none)
    (z_len : PySem.W.nsIn K mainGlobals "len" = some none)
    (z_abs : PySem.W.nsIn K mainGlobals "abs" = some none)
    (z_isinstance : PySem.W.nsIn K mainGlobals "isinstance" = some none)
    (z_str : PySem.W.nsIn K mainGlobals "str" = some none)
    (z_all : PySem.W.nsIn K mainGlobals "all" = some none)
    (z_list : PySem.W.nsIn K mainGlobals "list" = some none)
    (z_tuple : PySem.W.nsIn K mainGlobals "tuple" = some none)
    (z_range : PySem.W.nsIn K mainGlobals "range" = some none)
    (z_sorted : PySem.W.nsIn K mainGlobals "sorted" = some none)
    (z_enumerate : PySem.W.nsIn K mainGlobals "enumerate" = some none)
    (z_repr : PySem.W.nsIn K mainGlobals "repr" = some none)
    (v_LETTERS_words : PySem.W.nsIn K mainGlobals "LETTERS_words" = some (some (.str "abc" t_LETTERS_words)))
    (v_MOST_LETTERS : PySem.W.nsIn K mainGlobals "MOST_LETTERS" = some (some (.int 8 t_MOST_LETTERS)))
    (v_MOST_WORDS : PySem.W.nsIn K mainGlobals "MOST_WORDS" = some (some (.int 12 t_MOST_WORDS)))
    : ∃ fd : FuncData, (∀ (s : Shared) (v : Value), BindsTo s fd ⟨[v], []⟩ [("_law_script", v)]) ∧ ∀ base : Heap, K.In base → base.Ns mainGlobals mg → FnG l.prog w K mg base CX0 10 fa fd ["_law_script"] (spLaw K) := by
  have e := hfa.symm.trans (PySem.W.mg_of X G a20)
  cases e
  have T : TX mg CW CR := ⟨PySem.W.mg_none_of X G z_int, PySem.W.mg_none_of X G z_len, PySem.W.mg_none_of X G z_abs, PySem.W.mg_none_of X G z_isinstance, PySem.W.mg_none_of X G z_str, PySem.W.mg_none_of X G z_all, PySem.W.mg_none_of X G z_list, PySem.W.mg_none_of X G z_tuple, PySem.W.mg_none_of X G z_range, PySem.W.mg_none_of X G z_sorted, PySem.W.mg_none_of X G z_enumerate, PySem.W.mg_none_of X G z_repr, ⟨_, PySem.W.mg_of X G v_LETTERS_words⟩, ⟨_, PySem.W.mg_of X G v_MOST_LETTERS⟩, ⟨_, PySem.W.mg_of X G v_MOST_WORDS⟩, PySem.W.mg_of X G aCW, PySem.W.mg_of X G aCR⟩
  have Kf : KF K CW CR := ⟨⟨pgCW, hdCW, poCW, saCW⟩, naCW_text, ⟨⟨pgCW, hdCW, poCW, saCW⟩, haCW, hnCW, htkCW, hmCW⟩, kit_ref icCW tyCW subW, kit_self, ⟨pgCR, hdCR, poCR, saCR⟩, naCR_words⟩
  have O : OpT K CR (Operator.BitOr).info.2 "str" := OpT.of o1 o2 (by decide +kernel) o5
  have F1 := fun_mk (st := sIsText) l1 c1 k1
  have b1 := F1.binds (ps := ["value"]) fun _ _ _ _ _ _ us hl => match us, hl with | [_], _ => rfl
  have F2 := fun_mk (st := sWI) l2 c2 k2
  have b2 := F2.binds (ps := ["self", "text"]) fun _ _ _ _ _ _ us hl => match us, hl with | [_, _], _ => rfl
  have F3 := fun_mk (st := sOf) l3 c3 k3
  have b3 := F3.binds (ps := ["value"]) fun _ _ _ _ _ _ us hl => match us, hl with | [_], _ => rfl
  have F4 := fun_mk (st := sIsWord) l4 c4 k4
  have b4 := F4.binds (ps := ["value"]) fun _ _ _ _ _ _ us hl => match us, hl with | [_], _ => rfl
  have F5 := fun_mk (st := sTexts) l5 c5 k5
  have b5 := F5.binds (ps := ["words"]) fun _ _ _ _ _ _ us hl => match us, hl with | [_], _ => rfl
  have F6 := fun_mk (st := sRI) l6 c6 k6
  have F7 := fun_mk (st := sHeaps) l7 c7 k7
  have b7 := F7.binds (ps := ["self"]) fun _ _ _ _ _ _ us hl => match us, hl with | [_], _ => rfl
  have F8 := fun_mk (st := sOr) l8 c8 k8
  have b8 := F8.binds (ps := ["self", "other"]) fun _ _ _ _ _ _ us hl => match us, hl with | [_, _], _ => rfl
  have F9 := fun_mk (st := sAlike) l9 c9 k9
  have b9 := F9.binds (ps := ["one", "other"]) fun _ _ _ _ _ _ us hl => match us, hl with | [_, _], _ => rfl
  have F10 := fun_mk (st := sPen) l10 c10 k10
  have b10 := F10.binds (ps := ["_law_script"]) fun _ _ _ _ _ _ us hl => match us, hl with | [_], _ => rfl
  have F11 := fun_mk (st := sDraw) l11 c11 k11
  have b11 := F11.binds (ps := ["_law_pen_here", "_law_many"]) fun _ _ _ _ _ _ us hl => match us, hl with | [_, _], _ => rfl
  have F12 := fun_mk (st := sPick) l12 c12 k12
  have b12 := F12.binds (ps := ["_law_pen_here", "_law_some"]) fun _ _ _ _ _ _ us hl => match us, hl with | [_, _], _ => rfl
  have F13 := fun_mk (st := sWord) l13 c13 k13
  have b13 := F13.binds (ps := ["_law_pen_here"]) fun _ _ _ _ _ _ us hl => match us, hl with | [_], _ => rfl
  have F14 := fun_mk (st := sWords) l14 c14 k14
  have b14 := F14.binds (ps := ["_law_pen_here", "_law_most"]) fun _ _ _ _ _ _ us hl => match us, hl with | [_, _], _ => rfl
  have F15 := fun_mk (st := sStir) l15 c15 k15
  have b15 := F15.binds (ps := ["_law_pen_here", "_law_some"]) fun _ _ _ _ _ _ us hl => match us, hl with | [_, _], _ => rfl
  have F16 := fun_mk (st := sRow) l16 c16 k16
  have b16 := F16.binds (ps := ["_law_words_here"]) fun _ _ _ _ _ _ us hl => match us, hl with | [_], _ => rfl
  have F17 := fun_mk (st := sHp) l17 c17 k17
  have b17 := F17.binds (ps := ["_law_words_here"]) fun _ _ _ _ _ _ us hl => match us, hl with | [_], _ => rfl
  have F18 := fun_mk (st := sBent) l18 c18 k18
  have b18 := F18.binds (ps := ["_law_pen_here", "_law_words_here"]) fun _ _ _ _ _ _ us hl => match us, hl with | [_, _], _ => rfl
  have F19 := fun_mk (st := sRight) l19 c19 k19
  have b19 := F19.binds (ps := ["_law_one", "_law_other"]) fun _ _ _ _ _ _ us hl => match us, hl with | [_, _], _ => rfl
  have F20 := fun_mk (st := sLaw) l20 c20 k20
  have b20 := F20.binds (ps := ["_law_script"]) fun _ _ _ _ _ _ us hl => match us, hl with | [_], _ => rfl
  refine ⟨PySem.W.fnOf "law" "law" (defArgs sLaw) (defBody sLaw) (defScope sLaw) .none kV20 dc20 pm20 an20 cd20 ct20, fun s v => .of_eq rfl, fun base _ _ => ?_⟩
  have D_is_text : FnD l.prog w K mg base 1 "is_text" 1 0 spIsText := ⟨f1, _, _, ok_is_text F1 T, PySem.W.mg_of X G a1, k1, b1⟩
  have D_WI : MkD l.prog w K mg base 2 "Word" CW 2 0 spWI := ⟨f2, _, _, ⟨mkCW, a2, i2, kpCW⟩, ok_WI F2 T Kf D_is_text, PySem.W.mg_of X G aCW, b2⟩
  have D_of : StD l.prog w K mg base 4 CW "of" 1 0 (spOf CW) := ⟨p3, f3, _, _, _, rs3, ⟨r3, g3⟩, q3, a3, k3, ok_of F3 T Kf D_WI, b3⟩
  have D_is_word : FnD l.prog w K mg base 2 "is_word" 1 0 (spIsWord CW) := ⟨f4, _, _, ok_is_word F4 T Kf, PySem.W.mg_of X G a4, k4, b4⟩
  have D_texts : FnD l.prog w K mg base 1 "texts_of" 1 0 (spTexts CW) := ⟨f5, _, _, ok_texts F5 Kf, PySem.W.mg_of X G a5, k5, b5⟩
  have D_RI : MkS l.prog w K mg base 5 "Row" CR 0 (spRI CW) := ⟨f6, ⟨mkCR, a6, i6, kpCR⟩, ok_RI F6 T Kf D_is_word D_of, PySem.W.mg_of X G aCR⟩
  have D_heaps : MtD l.prog w K mg base 2 CR "heaps" 1 0 (spHeaps CW CR) := ⟨f7, _, _, Kf.cr, ⟨a7, i7, k7⟩, ok_heaps F7 T Kf D_texts, b7⟩
  have D_or : MtD l.prog w K mg base 7 CR (PySem.dunder (Operator.BitOr).info.2) 2 0 (spOr CW CR) := ⟨f8, _, _, Kf.cr, ⟨(by rw [show PySem.dunder (Operator.BitOr).info.2 = "__or__" by decide +kernel]; exact a8), i8, k8⟩, ok_or F8 T Kf D_of D_RI, b8⟩
  have D_alike : FnD l.prog w K mg base 3 "alike" 2 0 (spAlike CW CR) := ⟨f9, _, _, ok_alike F9 D_heaps, PySem.W.mg_of X G a9, k9, b9⟩
  have D_draw : FnD l.prog w K mg base 1 "_law_draw" 2 1 spDraw := ⟨f11, _, _, ok_draw F11 T, PySem.W.mg_of X G a11, k11, b11⟩
  have D_pick : FnD l.prog w K mg base 2 "_law_pick" 2 1 spPick := ⟨f12, _, _, ok_pick F12 T D_draw, PySem.W.mg_of X G a12, k12, b12⟩
  have D_word : FnD l.prog w K mg base 3 "_law_word" 1 9 spWord := ⟨f13, _, _, ok_word F13 T D_pick, PySem.W.mg_of X G a13, k13, b13⟩
  have D_words : FnD l.prog w K mg base 4 "_law_words" 2 130 spWords := ⟨f14, _, _, ok_words F14 T D_draw D_pick D_word, PySem.W.mg_of X G a14, k14, b14⟩
  have D_stir : FnD l.prog w K mg base 2 "_law_stirred" 2 13 spStir := ⟨f15, _, _, ok_stir F15 T D_draw, PySem.W.mg_of X G a15, k15, b15⟩
  have D_row : FnD l.prog w K mg base 8 "_law_row" 1 0 (spRow CW CR) := ⟨f16, _, _, ok_row F16 D_RI D_or O, PySem.W.mg_of X G a16, k16, b16⟩
  have D_hp : FnD l.prog w K mg base 1 "_law_heaps" 1 0 spHp := ⟨f17, _, _, ok_hp F17 T, PySem.W.mg_of X G a17, k17, b17⟩
  have D_bent : FnD l.prog w K mg base 4 "_law_bent" 2 20 spBent := ⟨f18, _, _, ok_bent F18 T D_draw D_pick D_word, PySem.W.mg_of X G a18, k18, b18⟩
  have D_right : FnD l.prog w K mg base 9 "_law_right" 2 0 spRight := ⟨f19, _, _, ok_right F19 T D_hp D_row D_alike, PySem.W.mg_of X G a19, k19, b19⟩
  exact ok_law F20 (ok_pen F10 T) (PySem.W.mg_of X G a10) k10 b10 T D_words D_stir D_hp D_right D_bent
end K51
open PySem PySem.W PyProof.Rows
set_option maxRecDepth 100000 in
set_option maxHeartbeats 0 in
theorem PySem.Challenge.cw_everystop_k51_rows_alike_holds : PySem.Challenge.rw_everystop_k51_rows_alike.Holds := by
  w_on; o_law; k_head; (case hw => w_witness2)
  k_fill
  refine Dx.walkG (l := PySem.Challenge.rw_everystop_k51_rows_alike) (k := 10) (x := "_law_script") rfl rfl ⟨rfl, by decide, by decide⟩ (fun w h Y => PySem.W.kIn_of Y) ?F
  case F =>
    intro w mg fa h KX G hmg
    refine' K51.all_mk KX G hmg ?aCW ?aCR ?a1 ?l1 ?c1 ?k1 ?a2 ?i2 ?l2 ?c2 ?k2 ?r3 ?g3 ?q3 ?a3 ?l3 ?c3 ?k3 ?a4 ?l4 ?c4 ?k4 ?a5 ?l5 ?c5 ?k5 ?a6 ?i6 ?l6 ?c6 ?k6 ?a7 ?i7 ?l7 ?c7 ?k7 ?a8 ?i8 ?l8 ?c8 ?k8 ?a9 ?l9 ?c9 ?k9 ?a10 ?l10 ?c10 ?k10 ?a11 ?l11 ?c11 ?k11 ?a12 ?l12 ?c12 ?k12 ?a13 ?l13 ?c13 ?k13 ?a14 ?l14 ?c14 ?k14 ?a15 ?l15 ?c15 ?k15 ?a16 ?l16 ?c16 ?k16 ?a17 ?l17 ?c17 ?k17 ?a18 ?l18 ?c18 ?k18 ?a19 ?l19 ?c19 ?k19 ?a20 ?l20 ?c20 ?k20 ?pgCW ?hdCW ?poCW ?saCW ?mkCW ?kpCW ?naCW_text ?haCW ?hnCW ?htkCW ?hmCW ?pgCR ?hdCR ?poCR ?saCR ?mkCR ?kpCR ?naCR_words ?icCW ?tyCW ?subW ?o1 ?o2 ?o5 ?z_int ?z_len ?z_abs ?z_isinstance ?z_str ?z_all ?z_list ?z_tuple ?z_range ?z_sorted ?z_enumerate ?z_repr ?v_LETTERS_words ?v_MOST_LETTERS ?v_MOST_WORDS
    (case aCW => k_is)
    (case aCR => k_is)
    (case a1 => k_is)
    (case l1 => k_is)
    (case c1 => k_is)
    (case k1 => k_is)
    (case a2 => k_is)
    (case i2 => k_is)
    (case l2 => k_is)
    (case c2 => k_is)
    (case k2 => k_is)
    (case r3 => k_is)
    (case g3 => k_is)
    (case q3 => k_is)
    (case a3 => k_is)
    (case l3 => k_is)
    (case c3 => k_is)
    (case k3 => k_is)
    (case a4 => k_is)
    (case l4 => k_is)
    (case c4 => k_is)
    (case k4 => k_is)
    (case a5 => k_is)
    (case l5 => k_is)
    (case c5 => k_is)
    (case k5 => k_is)
    (case a6 => k_is)
    (case i6 => k_is)
    (case l6 => k_is)
    (case c6 => k_is)
    (case k6 => k_is)
    (case a7 => k_is)
    (case i7 => k_is)
    (case l7 => k_is)
    (case c7 => k_is)
    (case k7 => k_is)
    (case a8 => k_is)
    (case i8 => k_is)
    (case l8 => k_is)
    (case c8 => k_is)
    (case k8 => k_is)
    (case a9 => k_is)
    (case l9 => k_is)
    (case c9 => k_is)
    (case k9 => k_is)
    (case a10 => k_is)
    (case l10 => k_is)
    (case c10 => k_is)
    (case k10 => k_is)
    (case a11 => k_is)
    (case l11 => k_is)
    (case c11 => k_is)
    (case k11 => k_is)
    (case a12 => k_is)
    (case l12 => k_is)
    (case c12 => k_is)
    (case k12 => k_is)
    (case a13 => k_is)
    (case l13 => k_is)
    (case c13 => k_is)
    (case k13 => k_is)
    (case a14 => k_is)
    (case l14 => k_is)
    (case c14 => k_is)
    (case k14 => k_is)
    (case a15 => k_is)
    (case l15 => k_is)
    (case c15 => k_is)
    (case k15 => k_is)
    (case a16 => k_is)
    (case l16 => k_is)
    (case c16 => k_is)
    (case k16 => k_is)
    (case a17 => k_is)
    (case l17 => k_is)
    (case c17 => k_is)
    (case k17 => k_is)
    (case a18 => k_is)
    (case l18 => k_is)
    (case c18 => k_is)
    (case k18 => k_is)
    (case a19 => k_is)
    (case l19 => k_is)
    (case c19 => k_is)
    (case k19 => k_is)
    (case a20 => k_is)
    (case l20 => k_is)
    (case c20 => k_is)
    (case k20 => k_is)
    (case pgCW => k_is)
    (case hdCW => k_is)
    (case poCW => k_is)
    (case saCW => k_is)
    (case mkCW => k_is)
    (case kpCW => k_is)
    (case naCW_text => k_is)
    (case haCW => k_is)
    (case hnCW => k_is)
    (case htkCW => k_is)
    (case hmCW => k_is)
    (case pgCR => k_is)
    (case hdCR => k_is)
    (case poCR => k_is)
    (case saCR => k_is)
    (case mkCR => k_is)
    (case kpCR => k_is)
    (case naCR_words => k_is)
    (case icCW => k_is)
    (case tyCW => k_is)
    (case subW => k_is)
    (case o1 => k_is)
    (case o2 => k_is)
    (case o5 => k_is)
    (case z_int => k_is)
    (case z_len => k_is)
    (case z_abs => k_is)
    (case z_isinstance => k_is)
    (case z_str => k_is)
    (case z_all => k_is)
    (case z_list => k_is)
    (case z_tuple => k_is)
    (case z_range => k_is)
    (case z_sorted => k_is)
    (case z_enumerate => k_is)
    (case z_repr => k_is)
    (case v_LETTERS_words => k_is)
    (case v_MOST_LETTERS => k_is)
    (case v_MOST_WORDS => k_is)
